import PyProof.Rows.All
import Wide.All
import OpenK.AllK
import Wide.FinOn
import HandS.ForMost
import HandS.Codes
import HandS.HeadNt
import HandS.Head2
import HandS.HeadEnd
import HandS.Slots
import HandS.SlotsOwn
import HandS.ClsMeth
import KE.KStateDown
import HandS.Walk
import HandS.DictComp
import HandS.IsInst
import HandS.TupAny
import HandS.Star
import HandS.Style
import PyProof.ListIndex
import HandS.Zip
import HandS.Strs
import PyProof.DictUpdate
import HandS.Conv
import HandS.DictTup
import HandS.SortOrd
import HandS.SortRule
import PyProof.DictDisplay
import HandS.DictEq
import HandS.OwnEq
import HandS.More
import HandS.Wide
import PyProof.StrBlock2
import PySem.Challenge.RW_farapart_k36_whole_apart_tells_differenc
/-! ## FpBase -/
set_option Elab.async false
set_option linter.all false
set_option maxRecDepth 100000
namespace Fp
open PySem PySem.Spec PyProof.Rows L2
abbrev row : PySem.W.OpenLaw := PySem.Challenge.rw_farapart_k36_whole_apart_tells_differenc
def top (i : Nat) : Stmt := PySem.Challenge.pw_farapart_k36_whole_apart_tells_differenc.main.body.getD i (.Pass ⟨0, 0, 0, 0⟩)
/-! ### the addresses that the facts look at: names, code objects, classes' names, their defs, getters -/
def refsQ (o : Obj) : List Addr := match o.data with
  | .dict es _ => es.toList.flatMap fun e => He.refV e.val
  | .func fd => He.refV fd.code
  | .cls cd => [cd.ns]
  | .fields vs => (match o.cls with
    | .type n => if (n == "staticmethod" || n == "property") = true then vs.toList.flatMap He.refV else []
    | _ => [])
  | _ => []
def nextQ (g : Addr → Option Obj) (as : List Addr) : List Addr := as.flatMap fun a => match g a with
  | some o => refsQ o
  | none => []
def colQ (g : Addr → Option Obj) : Nat → List Addr → List Addr
  | 0, as => as
  | n + 1, as => as ++ colQ g n (nextQ g as)
/-! ### the hook: defs, and one Bool of K -/
def obsM (fn : List He5.DefA) (ex : PySem.W.Frag → Bool) (K : PySem.W.Frag) : He.AlD := (ex K && fn.all fun d => d.ok K, fn.map fun d => He5.fnA K (d.at_ K))
def SaysM (fn : List He5.DefA) (ex : PySem.W.Frag → Bool) (K : PySem.W.Frag) : Prop := obsM fn ex K = He5.valA fn
def obsMG (n : Nat) (fn : List He5.DefA) (ex : PySem.W.Frag → Bool) (g : Addr → Option Obj) : He.AlD := obsM fn ex (He.frG g (colQ g n [mainGlobals] ++ [cStatics]))
def hookM (n : Nat) (fn : List He5.DefA) (ex : PySem.W.Frag → Bool) : PySem.W.Hook where
  α := He.AlD
  obs := fun s => obsMG n fn ex s.heap.get?
  val := fun _ => He5.valA fn
  says := fun _ h => ∃ K : PySem.W.Frag, K.In h ∧ SaysM fn ex K
  of := fun _ _ e => ⟨_, He.frG_in, e⟩
  keeps := fun _ _ _ ⟨K, hK, c⟩ k => ⟨K, PySem.W.Frag.In.keeps hK k, c⟩
theorem obsMG_eq {n : Nat} {fn : List He5.DefA} {ex : PySem.W.Frag → Bool} {g : Addr → Option Obj} {s : Shared} (h : ∀ a, g a = s.heap.get? a) : obsMG n fn ex g = (hookM n fn ex).obs s := by
  have e : g = s.heap.get? := funext h
  rw [e] <;> rfl
section
variable {fn : List He5.DefA} {ex : PySem.W.Frag → Bool} {K : PySem.W.Frag}
theorem SaysM.more (c : SaysM fn ex K) : ex K = true := (He.ba (show (ex K && fn.all fun d => d.ok K) = true from congrArg (fun z : He.AlD => z.1) c)).1
theorem SaysM.def_ (c : SaysM fn ex K) (i : Nat) {d : He5.DefA} (h : fn[i]? = some d := by rfl) : ∃ fd, L2.FunD K d.name d.qual d.params d.body d.scope (d.dvs K) (d.kws K) (d.at_ K) fd := by
  have c2 := (He.ba (show (ex K && fn.all fun d => d.ok K) = true from congrArg (fun z : He.AlD => z.1) c)).2
  have e : fn.map (fun d => He5.fnA K (d.at_ K)) = fn.map He5.DefA.val := congrArg (fun z : He.AlD => z.2) c
  have e2 : (fn.map fun d => He5.fnA K (d.at_ K))[i]? = (fn.map He5.DefA.val)[i]? := by rw [e]
  rw [List.getElem?_map, List.getElem?_map, h] at e2
  exact He5.DefA.funD (Option.some.inj e2) (List.all_eq_true.mp c2 d (List.mem_of_getElem? h))
end
end Fp

/-! ## FpFacts -/
set_option Elab.async false
set_option linter.all false
set_option maxRecDepth 100000
namespace Fp
open PySem PySem.Spec PyProof.Rows L2
/-! ### the defs of the text -/
abbrev s_joined : Stmt := top 11
abbrev s_moved : Stmt := top 12
abbrev s_led_row : Stmt := top 13
abbrev s_kinds_of : Stmt := top 14
abbrev s_Form_init : Stmt := inClass (top 15) 0
abbrev s_Form_begin : Stmt := inClass (top 15) 1
abbrev s_Form_names : Stmt := inClass (top 15) 3
abbrev s_Form_dict_of : Stmt := inClass (top 15) 5
abbrev s_Form_getitem : Stmt := inClass (top 15) 6
abbrev s_Form_with_table : Stmt := inClass (top 15) 8
abbrev s_Form_after : Stmt := inClass (top 15) 9
abbrev s_Form_handed : Stmt := inClass (top 15) 10
abbrev s_Form_behind : Stmt := inClass (top 15) 11
abbrev s_Form_entered : Stmt := inClass (top 15) 12
abbrev s_Form_numbers : Stmt := inClass (top 15) 14
abbrev s_Form_apart : Stmt := inClass (top 15) 15
abbrev s_Form_eq : Stmt := inClass (top 15) 16
abbrev s_is_integer : Stmt := top 21
abbrev s_is_name : Stmt := top 22
abbrev s_is_source : Stmt := top 23
abbrev s_is_kind : Stmt := top 24
abbrev s_fits : Stmt := top 25
abbrev s_are_different : Stmt := top 26
abbrev s_are_names : Stmt := top 27
abbrev s_is_marked : Stmt := top 29
abbrev s_form_behind : Stmt := top 30
abbrev s_form_of_run : Stmt := top 31
abbrev s_form_at : Stmt := top 32
abbrev s_played : Stmt := top 33
abbrev s_is_part : Stmt := top 35
abbrev s_are_parts : Stmt := top 36
abbrev s_is_set_part : Stmt := top 37
abbrev s_is_set : Stmt := top 38
abbrev s_is_call : Stmt := top 39
abbrev s_is_statement : Stmt := top 40
abbrev s_frozen : Stmt := top 41
abbrev s_sets : Stmt := top 42
abbrev s_parts_of : Stmt := top 43
abbrev s_reads : Stmt := top 44
abbrev s_is_way : Stmt := top 46
abbrev s_are_kinds : Stmt := top 47
abbrev s_targets : Stmt := top 48
abbrev s_Procedure_init : Stmt := inClass (top 49) 1
abbrev s_Procedure_need_names : Stmt := inClass (top 49) 2
abbrev s_Procedure_need_places : Stmt := inClass (top 49) 3
abbrev s_Procedure_need_place : Stmt := inClass (top 49) 4
abbrev s_Procedure_need_kinds : Stmt := inClass (top 49) 5
abbrev s_Procedure_need_way : Stmt := inClass (top 49) 6
abbrev s_Procedure_params : Stmt := inClass (top 49) 7
abbrev s_Procedure_results : Stmt := inClass (top 49) 8
abbrev s_Procedure_names : Stmt := inClass (top 49) 10
abbrev s_Procedure_kind : Stmt := inClass (top 49) 12
abbrev s_Procedure_ways : Stmt := inClass (top 49) 15
abbrev s_Procedure_way : Stmt := inClass (top 49) 16
abbrev s_are_procedures : Stmt := top 51
abbrev s_calls : Stmt := top 52
abbrev s_is_fit : Stmt := top 53
abbrev s_Program_init : Stmt := inClass (top 54) 1
abbrev s_Program_need : Stmt := inClass (top 54) 2
abbrev s_Program_need_called : Stmt := inClass (top 54) 3
abbrev s_Program_need_fit : Stmt := inClass (top 54) 4
abbrev s_Program_first : Stmt := inClass (top 54) 5
abbrev s_Program_getitem : Stmt := inClass (top 54) 14
abbrev s_l_bag : Stmt := top 56
abbrev s_l_take : Stmt := top 57
abbrev s_l_mixed : Stmt := top 58
abbrev s_l_names : Stmt := top 59
abbrev s_l_number : Stmt := top 60
abbrev s_l_kinds : Stmt := top 61
abbrev s_l_part : Stmt := top 62
abbrev s_l_statement : Stmt := top 63
abbrev s_l_call : Stmt := top 64
abbrev s_l_ways : Stmt := top 65
abbrev s_l_model : Stmt := top 66
abbrev s_l_procedure : Stmt := top 67
abbrev s_l_program : Stmt := top 68
abbrev s_l_drawn_start : Stmt := top 69
abbrev s_l_gone_on : Stmt := top 70
abbrev s_l_drawn_run : Stmt := top 71
abbrev s_l_drawn_moment : Stmt := top 72
abbrev s_l_head : Stmt := top 73
abbrev s_l_run_form : Stmt := top 74
abbrev s_l_stepped : Stmt := top 75
abbrev s_l_steps_right : Stmt := top 76
abbrev s_l_apart_right : Stmt := top 77
abbrev s_law : Stmt := top 78
def a_joined : PySem.W.Frag → Addr := fun K => He.ga K "joined"
def a_moved : PySem.W.Frag → Addr := fun K => He.ga K "moved"
def a_led_row : PySem.W.Frag → Addr := fun K => He.ga K "led_row"
def a_kinds_of : PySem.W.Frag → Addr := fun K => He.ga K "kinds_of"
def a_Form_init : PySem.W.Frag → Addr := fun K => He.ma K (He.ga K "Form") "__init__"
def a_Form_begin : PySem.W.Frag → Addr := fun K => He5.wf K (He.ga K "Form") "staticmethod" "begin"
def a_Form_names : PySem.W.Frag → Addr := fun K => He.ma K (He.ga K "Form") "names"
def a_Form_dict_of : PySem.W.Frag → Addr := fun K => He.ma K (He.ga K "Form") "dict_of"
def a_Form_getitem : PySem.W.Frag → Addr := fun K => He.ma K (He.ga K "Form") "__getitem__"
def a_Form_with_table : PySem.W.Frag → Addr := fun K => He.ma K (He.ga K "Form") "with_table"
def a_Form_after : PySem.W.Frag → Addr := fun K => He.ma K (He.ga K "Form") "after"
def a_Form_handed : PySem.W.Frag → Addr := fun K => He.ma K (He.ga K "Form") "handed"
def a_Form_behind : PySem.W.Frag → Addr := fun K => He.ma K (He.ga K "Form") "behind"
def a_Form_entered : PySem.W.Frag → Addr := fun K => He.ma K (He.ga K "Form") "entered"
def a_Form_numbers : PySem.W.Frag → Addr := fun K => He.ma K (He.ga K "Form") "numbers"
def a_Form_apart : PySem.W.Frag → Addr := fun K => He.ma K (He.ga K "Form") "apart"
def a_Form_eq : PySem.W.Frag → Addr := fun K => He.ma K (He.ga K "Form") "__eq__"
def a_is_integer : PySem.W.Frag → Addr := fun K => He.ga K "is_integer"
def a_is_name : PySem.W.Frag → Addr := fun K => He.ga K "is_name"
def a_is_source : PySem.W.Frag → Addr := fun K => He.ga K "is_source"
def a_is_kind : PySem.W.Frag → Addr := fun K => He.ga K "is_kind"
def a_fits : PySem.W.Frag → Addr := fun K => He.ga K "fits"
def a_are_different : PySem.W.Frag → Addr := fun K => He.ga K "are_different"
def a_are_names : PySem.W.Frag → Addr := fun K => He.ga K "are_names"
def a_is_marked : PySem.W.Frag → Addr := fun K => He.ga K "is_marked"
def a_form_behind : PySem.W.Frag → Addr := fun K => He.ga K "form_behind"
def a_form_of_run : PySem.W.Frag → Addr := fun K => He.ga K "form_of_run"
def a_form_at : PySem.W.Frag → Addr := fun K => He.ga K "form_at"
def a_played : PySem.W.Frag → Addr := fun K => He.ga K "played"
def a_is_part : PySem.W.Frag → Addr := fun K => He.ga K "is_part"
def a_are_parts : PySem.W.Frag → Addr := fun K => He.ga K "are_parts"
def a_is_set_part : PySem.W.Frag → Addr := fun K => He.ga K "is_set_part"
def a_is_set : PySem.W.Frag → Addr := fun K => He.ga K "is_set"
def a_is_call : PySem.W.Frag → Addr := fun K => He.ga K "is_call"
def a_is_statement : PySem.W.Frag → Addr := fun K => He.ga K "is_statement"
def a_frozen : PySem.W.Frag → Addr := fun K => He.ga K "frozen"
def a_sets : PySem.W.Frag → Addr := fun K => He.ga K "sets"
def a_parts_of : PySem.W.Frag → Addr := fun K => He.ga K "parts_of"
def a_reads : PySem.W.Frag → Addr := fun K => He.ga K "reads"
def a_is_way : PySem.W.Frag → Addr := fun K => He.ga K "is_way"
def a_are_kinds : PySem.W.Frag → Addr := fun K => He.ga K "are_kinds"
def a_targets : PySem.W.Frag → Addr := fun K => He.ga K "targets"
def a_Procedure_init : PySem.W.Frag → Addr := fun K => He.ma K (He.ga K "Procedure") "__init__"
def a_Procedure_need_names : PySem.W.Frag → Addr := fun K => He.ma K (He.ga K "Procedure") "need_names"
def a_Procedure_need_places : PySem.W.Frag → Addr := fun K => He.ma K (He.ga K "Procedure") "need_places"
def a_Procedure_need_place : PySem.W.Frag → Addr := fun K => He.ma K (He.ga K "Procedure") "need_place"
def a_Procedure_need_kinds : PySem.W.Frag → Addr := fun K => He.ma K (He.ga K "Procedure") "need_kinds"
def a_Procedure_need_way : PySem.W.Frag → Addr := fun K => He.ma K (He.ga K "Procedure") "need_way"
def a_Procedure_params : PySem.W.Frag → Addr := fun K => He5.wf K (He.ga K "Procedure") "property" "params"
def a_Procedure_results : PySem.W.Frag → Addr := fun K => He5.wf K (He.ga K "Procedure") "property" "results"
def a_Procedure_names : PySem.W.Frag → Addr := fun K => He.ma K (He.ga K "Procedure") "names"
def a_Procedure_kind : PySem.W.Frag → Addr := fun K => He.ma K (He.ga K "Procedure") "kind"
def a_Procedure_ways : PySem.W.Frag → Addr := fun K => He.ma K (He.ga K "Procedure") "ways"
def a_Procedure_way : PySem.W.Frag → Addr := fun K => He.ma K (He.ga K "Procedure") "way"
def a_are_procedures : PySem.W.Frag → Addr := fun K => He.ga K "are_procedures"
def a_calls : PySem.W.Frag → Addr := fun K => He.ga K "calls"
def a_is_fit : PySem.W.Frag → Addr := fun K => He.ga K "is_fit"
def a_Program_init : PySem.W.Frag → Addr := fun K => He.ma K (He.ga K "Program") "__init__"
def a_Program_need : PySem.W.Frag → Addr := fun K => He.ma K (He.ga K "Program") "need"
def a_Program_need_called : PySem.W.Frag → Addr := fun K => He.ma K (He.ga K "Program") "need_called"
def a_Program_need_fit : PySem.W.Frag → Addr := fun K => He.ma K (He.ga K "Program") "need_fit"
def a_Program_first : PySem.W.Frag → Addr := fun K => He5.wf K (He.ga K "Program") "property" "first"
def a_Program_getitem : PySem.W.Frag → Addr := fun K => He.ma K (He.ga K "Program") "__getitem__"
def a_l_bag : PySem.W.Frag → Addr := fun K => He.ga K "_law_bag"
def a_l_take : PySem.W.Frag → Addr := fun K => He.ga K "_law_take"
def a_l_mixed : PySem.W.Frag → Addr := fun K => He.ga K "_law_mixed"
def a_l_names : PySem.W.Frag → Addr := fun K => He.ga K "_law_names"
def a_l_number : PySem.W.Frag → Addr := fun K => He.ga K "_law_number"
def a_l_kinds : PySem.W.Frag → Addr := fun K => He.ga K "_law_kinds"
def a_l_part : PySem.W.Frag → Addr := fun K => He.ga K "_law_part"
def a_l_statement : PySem.W.Frag → Addr := fun K => He.ga K "_law_statement"
def a_l_call : PySem.W.Frag → Addr := fun K => He.ga K "_law_call"
def a_l_ways : PySem.W.Frag → Addr := fun K => He.ga K "_law_ways"
def a_l_model : PySem.W.Frag → Addr := fun K => He.ga K "_law_model"
def a_l_procedure : PySem.W.Frag → Addr := fun K => He.ga K "_law_procedure"
def a_l_program : PySem.W.Frag → Addr := fun K => He.ga K "_law_program"
def a_l_drawn_start : PySem.W.Frag → Addr := fun K => He.ga K "_law_drawn_start"
def a_l_gone_on : PySem.W.Frag → Addr := fun K => He.ga K "_law_gone_on"
def a_l_drawn_run : PySem.W.Frag → Addr := fun K => He.ga K "_law_drawn_run"
def a_l_drawn_moment : PySem.W.Frag → Addr := fun K => He.ga K "_law_drawn_moment"
def a_l_head : PySem.W.Frag → Addr := fun K => He.ga K "_law_head"
def a_l_run_form : PySem.W.Frag → Addr := fun K => He.ga K "_law_run_form"
def a_l_stepped : PySem.W.Frag → Addr := fun K => He.ga K "_law_stepped"
def a_l_steps_right : PySem.W.Frag → Addr := fun K => He.ga K "_law_steps_right"
def a_l_apart_right : PySem.W.Frag → Addr := fun K => He.ga K "_law_apart_right"
def a_law : PySem.W.Frag → Addr := fun K => He.ga K "law"
def dA (x qual : Str) (st : Stmt) (at_ : PySem.W.Frag → Addr) : He5.DefA := ⟨at_, x, qual, defArgs st, defBody st, defScope st, [], []⟩
def d_joined : He5.DefA := dA "joined" "joined" s_joined a_joined
def d_moved : He5.DefA := dA "moved" "moved" s_moved a_moved
def d_led_row : He5.DefA := dA "led_row" "led_row" s_led_row a_led_row
def d_kinds_of : He5.DefA := dA "kinds_of" "kinds_of" s_kinds_of a_kinds_of
def d_Form_init : He5.DefA := dA "__init__" "Form.__init__" s_Form_init a_Form_init
def d_Form_begin : He5.DefA := dA "begin" "Form.begin" s_Form_begin a_Form_begin
def d_Form_names : He5.DefA := dA "names" "Form.names" s_Form_names a_Form_names
def d_Form_dict_of : He5.DefA := dA "dict_of" "Form.dict_of" s_Form_dict_of a_Form_dict_of
def d_Form_getitem : He5.DefA := dA "__getitem__" "Form.__getitem__" s_Form_getitem a_Form_getitem
def d_Form_with_table : He5.DefA := dA "with_table" "Form.with_table" s_Form_with_table a_Form_with_table
def d_Form_after : He5.DefA := dA "after" "Form.after" s_Form_after a_Form_after
def d_Form_handed : He5.DefA := dA "handed" "Form.handed" s_Form_handed a_Form_handed
def d_Form_behind : He5.DefA := dA "behind" "Form.behind" s_Form_behind a_Form_behind
def d_Form_entered : He5.DefA := dA "entered" "Form.entered" s_Form_entered a_Form_entered
def d_Form_numbers : He5.DefA := dA "numbers" "Form.numbers" s_Form_numbers a_Form_numbers
def d_Form_apart : He5.DefA := dA "apart" "Form.apart" s_Form_apart a_Form_apart
def d_Form_eq : He5.DefA := dA "__eq__" "Form.__eq__" s_Form_eq a_Form_eq
def d_is_integer : He5.DefA := dA "is_integer" "is_integer" s_is_integer a_is_integer
def d_is_name : He5.DefA := dA "is_name" "is_name" s_is_name a_is_name
def d_is_source : He5.DefA := dA "is_source" "is_source" s_is_source a_is_source
def d_is_kind : He5.DefA := dA "is_kind" "is_kind" s_is_kind a_is_kind
def d_fits : He5.DefA := dA "fits" "fits" s_fits a_fits
def d_are_different : He5.DefA := dA "are_different" "are_different" s_are_different a_are_different
def d_are_names : He5.DefA := dA "are_names" "are_names" s_are_names a_are_names
def d_is_marked : He5.DefA := dA "is_marked" "is_marked" s_is_marked a_is_marked
def d_form_behind : He5.DefA := dA "form_behind" "form_behind" s_form_behind a_form_behind
def d_form_of_run : He5.DefA := dA "form_of_run" "form_of_run" s_form_of_run a_form_of_run
def d_form_at : He5.DefA := dA "form_at" "form_at" s_form_at a_form_at
def d_played : He5.DefA := dA "played" "played" s_played a_played
def d_is_part : He5.DefA := dA "is_part" "is_part" s_is_part a_is_part
def d_are_parts : He5.DefA := dA "are_parts" "are_parts" s_are_parts a_are_parts
def d_is_set_part : He5.DefA := dA "is_set_part" "is_set_part" s_is_set_part a_is_set_part
def d_is_set : He5.DefA := dA "is_set" "is_set" s_is_set a_is_set
def d_is_call : He5.DefA := dA "is_call" "is_call" s_is_call a_is_call
def d_is_statement : He5.DefA := dA "is_statement" "is_statement" s_is_statement a_is_statement
def d_frozen : He5.DefA := dA "frozen" "frozen" s_frozen a_frozen
def d_sets : He5.DefA := dA "sets" "sets" s_sets a_sets
def d_parts_of : He5.DefA := dA "parts_of" "parts_of" s_parts_of a_parts_of
def d_reads : He5.DefA := dA "reads" "reads" s_reads a_reads
def d_is_way : He5.DefA := dA "is_way" "is_way" s_is_way a_is_way
def d_are_kinds : He5.DefA := dA "are_kinds" "are_kinds" s_are_kinds a_are_kinds
def d_targets : He5.DefA := dA "targets" "targets" s_targets a_targets
def d_Procedure_init : He5.DefA := dA "__init__" "Procedure.__init__" s_Procedure_init a_Procedure_init
def d_Procedure_need_names : He5.DefA := dA "need_names" "Procedure.need_names" s_Procedure_need_names a_Procedure_need_names
def d_Procedure_need_places : He5.DefA := dA "need_places" "Procedure.need_places" s_Procedure_need_places a_Procedure_need_places
def d_Procedure_need_place : He5.DefA := dA "need_place" "Procedure.need_place" s_Procedure_need_place a_Procedure_need_place
def d_Procedure_need_kinds : He5.DefA := dA "need_kinds" "Procedure.need_kinds" s_Procedure_need_kinds a_Procedure_need_kinds
def d_Procedure_need_way : He5.DefA := dA "need_way" "Procedure.need_way" s_Procedure_need_way a_Procedure_need_way
def d_Procedure_params : He5.DefA := dA "params" "Procedure.params" s_Procedure_params a_Procedure_params
def d_Procedure_results : He5.DefA := dA "results" "Procedure.results" s_Procedure_results a_Procedure_results
def d_Procedure_names : He5.DefA := dA "names" "Procedure.names" s_Procedure_names a_Procedure_names
def d_Procedure_kind : He5.DefA := dA "kind" "Procedure.kind" s_Procedure_kind a_Procedure_kind
def d_Procedure_ways : He5.DefA := dA "ways" "Procedure.ways" s_Procedure_ways a_Procedure_ways
def d_Procedure_way : He5.DefA := dA "way" "Procedure.way" s_Procedure_way a_Procedure_way
def d_are_procedures : He5.DefA := dA "are_procedures" "are_procedures" s_are_procedures a_are_procedures
def d_calls : He5.DefA := dA "calls" "calls" s_calls a_calls
def d_is_fit : He5.DefA := dA "is_fit" "is_fit" s_is_fit a_is_fit
def d_Program_init : He5.DefA := dA "__init__" "Program.__init__" s_Program_init a_Program_init
def d_Program_need : He5.DefA := dA "need" "Program.need" s_Program_need a_Program_need
def d_Program_need_called : He5.DefA := dA "need_called" "Program.need_called" s_Program_need_called a_Program_need_called
def d_Program_need_fit : He5.DefA := dA "need_fit" "Program.need_fit" s_Program_need_fit a_Program_need_fit
def d_Program_first : He5.DefA := dA "first" "Program.first" s_Program_first a_Program_first
def d_Program_getitem : He5.DefA := dA "__getitem__" "Program.__getitem__" s_Program_getitem a_Program_getitem
def d_l_bag : He5.DefA := dA "_law_bag" "_law_bag" s_l_bag a_l_bag
def d_l_take : He5.DefA := dA "_law_take" "_law_take" s_l_take a_l_take
def d_l_mixed : He5.DefA := dA "_law_mixed" "_law_mixed" s_l_mixed a_l_mixed
def d_l_names : He5.DefA := dA "_law_names" "_law_names" s_l_names a_l_names
def d_l_number : He5.DefA := dA "_law_number" "_law_number" s_l_number a_l_number
def d_l_kinds : He5.DefA := dA "_law_kinds" "_law_kinds" s_l_kinds a_l_kinds
def d_l_part : He5.DefA := dA "_law_part" "_law_part" s_l_part a_l_part
def d_l_statement : He5.DefA := dA "_law_statement" "_law_statement" s_l_statement a_l_statement
def d_l_call : He5.DefA := dA "_law_call" "_law_call" s_l_call a_l_call
def d_l_ways : He5.DefA := dA "_law_ways" "_law_ways" s_l_ways a_l_ways
def d_l_model : He5.DefA := dA "_law_model" "_law_model" s_l_model a_l_model
def d_l_procedure : He5.DefA := dA "_law_procedure" "_law_procedure" s_l_procedure a_l_procedure
def d_l_program : He5.DefA := dA "_law_program" "_law_program" s_l_program a_l_program
def d_l_drawn_start : He5.DefA := dA "_law_drawn_start" "_law_drawn_start" s_l_drawn_start a_l_drawn_start
def d_l_gone_on : He5.DefA := dA "_law_gone_on" "_law_gone_on" s_l_gone_on a_l_gone_on
def d_l_drawn_run : He5.DefA := dA "_law_drawn_run" "_law_drawn_run" s_l_drawn_run a_l_drawn_run
def d_l_drawn_moment : He5.DefA := dA "_law_drawn_moment" "_law_drawn_moment" s_l_drawn_moment a_l_drawn_moment
def d_l_head : He5.DefA := dA "_law_head" "_law_head" s_l_head a_l_head
def d_l_run_form : He5.DefA := dA "_law_run_form" "_law_run_form" s_l_run_form a_l_run_form
def d_l_stepped : He5.DefA := dA "_law_stepped" "_law_stepped" s_l_stepped a_l_stepped
def d_l_steps_right : He5.DefA := dA "_law_steps_right" "_law_steps_right" s_l_steps_right a_l_steps_right
def d_l_apart_right : He5.DefA := dA "_law_apart_right" "_law_apart_right" s_l_apart_right a_l_apart_right
def d_law : He5.DefA := dA "law" "law" s_law a_law
def fns0 : List He5.DefA := [d_joined, d_moved, d_led_row, d_kinds_of, d_Form_init, d_Form_begin, d_Form_names, d_Form_dict_of, d_Form_getitem, d_Form_with_table, d_Form_after, d_Form_handed, d_Form_behind, d_Form_entered, d_Form_numbers, d_Form_apart, d_Form_eq, d_is_integer, d_is_name, d_is_source]
def fns1 : List He5.DefA := [d_is_kind, d_fits, d_are_different, d_are_names, d_is_marked, d_form_behind, d_form_of_run, d_form_at, d_played, d_is_part, d_are_parts, d_is_set_part, d_is_set, d_is_call, d_is_statement, d_frozen, d_sets, d_parts_of, d_reads, d_is_way]
def fns2 : List He5.DefA := [d_are_kinds, d_targets, d_Procedure_init, d_Procedure_need_names, d_Procedure_need_places, d_Procedure_need_place, d_Procedure_need_kinds, d_Procedure_need_way, d_Procedure_params, d_Procedure_results, d_Procedure_names, d_Procedure_kind, d_Procedure_ways, d_Procedure_way, d_are_procedures, d_calls, d_is_fit, d_Program_init, d_Program_need, d_Program_need_called]
def fns3 : List He5.DefA := [d_Program_need_fit, d_Program_first, d_Program_getitem, d_l_bag, d_l_take, d_l_mixed, d_l_names, d_l_number, d_l_kinds, d_l_part, d_l_statement, d_l_call, d_l_ways, d_l_model, d_l_procedure, d_l_program, d_l_drawn_start, d_l_gone_on, d_l_drawn_run, d_l_drawn_moment]
def fns4 : List He5.DefA := [d_l_head, d_l_run_form, d_l_stepped, d_l_steps_right, d_l_apart_right, d_law]
def fns : List He5.DefA := fns0 ++ fns1 ++ fns2 ++ fns3 ++ fns4
def fas0 : List He.Fa := [.glo "joined", .glo "moved", .glo "led_row", .glo "kinds_of", .glo "is_integer", .glo "is_name", .glo "is_source", .glo "is_kind", .glo "fits", .glo "are_different", .glo "are_names", .glo "is_marked", .glo "form_behind", .glo "form_of_run", .glo "form_at", .glo "played", .glo "is_part", .glo "are_parts", .glo "is_set_part", .glo "is_set", .glo "is_call", .glo "is_statement", .glo "frozen", .glo "sets"]
def fas1 : List He.Fa := [.glo "parts_of", .glo "reads", .glo "is_way", .glo "are_kinds", .glo "targets", .glo "are_procedures", .glo "calls", .glo "is_fit", .glo "_law_bag", .glo "_law_take", .glo "_law_mixed", .glo "_law_names", .glo "_law_number", .glo "_law_kinds", .glo "_law_part", .glo "_law_statement", .glo "_law_call", .glo "_law_ways", .glo "_law_model", .glo "_law_procedure", .glo "_law_program", .glo "_law_drawn_start", .glo "_law_gone_on", .glo "_law_drawn_run"]
def fas2 : List He.Fa := [.glo "_law_drawn_moment", .glo "_law_head", .glo "_law_run_form", .glo "_law_stepped", .glo "_law_steps_right", .glo "_law_apart_right", .glo "law", .glo "Form", .glo "Procedure", .glo "Program", .glo "KINDS", .free "isinstance", .free "int", .free "bool", .free "str", .free "tuple", .free "list", .free "dict", .free "set", .free "len", .free "all", .free "sorted", .free "min", .free "max"]
def fas3 : List He.Fa := [.free "zip", .free "enumerate", .free "range", .free "abs", .str "ZERO" "", .str "LETTERS" "abcdefghijklmnopqrstuvwxyz", .int "LONGEST" 8, .cls "Form", .noat "Form" "its_kinds", .noat "Form" "its_params", .noat "Form" "its_results", .noat "Form" "its_table", .meth "Form" "__init__", .meth "Form" "names", .meth "Form" "dict_of", .meth "Form" "__getitem__", .meth "Form" "with_table", .meth "Form" "after", .meth "Form" "handed", .meth "Form" "behind", .meth "Form" "entered", .meth "Form" "numbers", .meth "Form" "apart", .meth "Form" "__eq__"]
def fas4 : List He.Fa := [.meth "Procedure" "__init__", .meth "Procedure" "need_names", .meth "Procedure" "need_places", .meth "Procedure" "need_place", .meth "Procedure" "need_kinds", .meth "Procedure" "need_way", .meth "Procedure" "names", .meth "Procedure" "kind", .meth "Procedure" "ways", .meth "Procedure" "way", .meth "Program" "__init__", .meth "Program" "need", .meth "Program" "need_called", .meth "Program" "need_fit", .meth "Program" "__getitem__", .mkr "Form", .mkr "Procedure", .mkr "Program"]
def fas : List He.Fa := fas0 ++ fas1 ++ fas2 ++ fas3 ++ fas4
/-! ### own facts -/
def sclsB (K : PySem.W.Frag) (x : Str) : Bool := PySem.W.plainGet K (He.ga K x) Str.empty && (PySem.W.isClsIn K (He.ga K x) && (PySem.W.plainOver K (He.ga K x) && He.eqO (PySem.W.findIn K (.ref (He.ga K x)) "__setattr__") (some (some (.builtin "object.__setattr__")))))
theorem sclsB_ok {K : PySem.W.Frag} {x : Str} (c : sclsB K x = true) : SlX.SCls K (He.ga K x) := by
  obtain ⟨c1, c⟩ := He.ba c
  obtain ⟨c2, c⟩ := He.ba c
  obtain ⟨c3, c4⟩ := He.ba c
  exact ⟨c1, c2, c3, He.eqO_ok c4⟩
def slotB (K : PySem.W.Frag) (x f : Str) (i : Nat) : Bool := He.eqO (PySem.W.findIn K (.ref (He.ga K x)) f) (some (some (.ref (He.ma K (He.ga K x) f)))) && (He.eqO (PySem.W.specialIn K (.ref (He.ma K (He.ga K x) f)) "__get__") (some (some (.builtin "member_descriptor.__get__"))) &&
  (decide (PySem.W.takesIn K (.ref (He.ma K (He.ga K x) f)) = some true) && (decide (PySem.W.typeIn K (.ref (He.ma K (He.ga K x) f)) = some (.type "member_descriptor")) && (decide (PySem.W.slotIn K (He.ma K (He.ga K x) f) (He.ga K x) = some i) && decide (i < 1000)))))
theorem slotB_ok {K : PySem.W.Frag} {x f : Str} {i : Nat} (c : slotB K x f i = true) : SlX.Slot1 K (He.ga K x) f (He.ma K (He.ga K x) f) i := by
  obtain ⟨c1, c⟩ := He.ba c
  obtain ⟨c2, c⟩ := He.ba c
  obtain ⟨c3, c⟩ := He.ba c
  obtain ⟨c4, c⟩ := He.ba c
  obtain ⟨c5, c6⟩ := He.ba c
  exact ⟨He.eqO_ok c1, He.eqO_ok c2, of_decide_eq_true c3, of_decide_eq_true c4, of_decide_eq_true c5, of_decide_eq_true c6⟩
/-- what isinstance asks of an own class -/
def isiB (K : PySem.W.Frag) (x : Str) : Bool := He.eqO (PySem.W.findIn K (.ref (He.ga K x)) "__class__") (some (some (.builtin "object.__class__"))) && (He.eqO (PySem.W.specialIn K (.builtin "object.__class__") "__get__") (some (some (.builtin "getset_descriptor.__get__"))) &&
  (decide (PySem.W.takesIn K (.builtin "object.__class__") = some true) && (decide (PySem.W.mroIn K (He.ga K x) (.type "object") = some true) && decide (PySem.W.kitOne K (.ref (He.ga K x)) (.ref (He.ga K x)) = some true))))
theorem isiB_ok {K : PySem.W.Frag} {x : Str} (c : isiB K x = true) : SlX.SIsi K (He.ga K x) ∧ PySem.W.kitOne K (.ref (He.ga K x)) (.ref (He.ga K x)) = some true := by
  obtain ⟨c1, c⟩ := He.ba c
  obtain ⟨c2, c⟩ := He.ba c
  obtain ⟨c3, c⟩ := He.ba c
  obtain ⟨c4, c5⟩ := He.ba c
  exact ⟨⟨He.eqO_ok c1, He.eqO_ok c2, of_decide_eq_true c3, of_decide_eq_true c4⟩, of_decide_eq_true c5⟩
/-- a property of an own class: the record, its getter -/
def propB (K : PySem.W.Frag) (x m : Str) : Bool := He.eqO (PySem.W.findIn K (.ref (He.ga K x)) m) (some (some (.ref (He.ma K (He.ga K x) m)))) && (He.eqO (PySem.W.specialIn K (.ref (He.ma K (He.ga K x) m)) "__get__") (some (some (.builtin "property.__get__"))) &&
  (decide (PySem.W.takesIn K (.ref (He.ma K (He.ga K x) m)) = some true) && (match PySem.W.recIn K (He.ma K (He.ga K x) m) "property" with
    | some (.ref _ :: _) => true
    | _ => false)))
structure PropF (K : PySem.W.Frag) (C p g : Addr) (m : Str) : Prop where
  at_ : PySem.W.findIn K (.ref C) m = some (some (.ref p))
  get : PySem.W.specialIn K (.ref p) "__get__" = some (some (.builtin "property.__get__"))
  tk : PySem.W.takesIn K (.ref p) = some true
  rc : ∃ rest, PySem.W.recIn K p "property" = some (.ref g :: rest)
theorem propB_ok {K : PySem.W.Frag} {x m : Str} (c : propB K x m = true) : PropF K (He.ga K x) (He.ma K (He.ga K x) m) (He5.wf K (He.ga K x) "property" m) m := by
  obtain ⟨c1, c⟩ := He.ba c
  obtain ⟨c2, c⟩ := He.ba c
  obtain ⟨c3, c4⟩ := He.ba c
  refine ⟨He.eqO_ok c1, He.eqO_ok c2, of_decide_eq_true c3, ?_⟩
  unfold He5.wf
  split at c4
  · rename_i f r e
    exact ⟨r, by rw [e]⟩
  · cases c4
/-- a static method read off the class -/
structure StatF (K : PySem.W.Frag) (C p f : Addr) (m : Str) : Prop where
  rd : PySem.W.readsIn K C (.type "type") = true
  ga : PySem.W.specialIn K (.ref C) "__getattribute__" = some (some (.builtin "type.__getattribute__"))
  at_ : PySem.W.findCls K (.ref C) (.type "type") m = some (.get (.builtin "staticmethod.__get__") (.ref p) .none (.ref C))
  rc : ∃ rest, PySem.W.recIn K p "staticmethod" = some (.ref f :: rest)
def statB (K : PySem.W.Frag) (x m : Str) : Bool := PySem.W.readsIn K (He.ga K x) (.type "type") && (He.eqO (PySem.W.specialIn K (.ref (He.ga K x)) "__getattribute__") (some (some (.builtin "type.__getattribute__"))) && He5.wrapB K (He.ga K x) "staticmethod" "staticmethod.__get__" m)
theorem statB_ok {K : PySem.W.Frag} {x m : Str} (c : statB K x m = true) : StatF K (He.ga K x) (He.ma K (He.ga K x) m) (He5.wf K (He.ga K x) "staticmethod" m) m := by
  obtain ⟨c1, c⟩ := He.ba c
  obtain ⟨c2, c3⟩ := He.ba c
  obtain ⟨h1, h2⟩ := He5.wrapB_ok c3
  exact ⟨c1, He.eqO_ok c2, h1, h2⟩
def owns : List (PySem.W.Frag → Bool) := [fun K => He.tupB K "KINDS" [.str "plain", .str "high", .str "low"],
  fun K => sclsB K "Procedure",
  fun K => sclsB K "Program",
  fun K => slotB K "Procedure" "held_kinds" 0,
  fun K => slotB K "Procedure" "held_params" 1,
  fun K => slotB K "Procedure" "held_results" 2,
  fun K => slotB K "Procedure" "held_size" 3,
  fun K => slotB K "Procedure" "held_ways" 4,
  fun K => slotB K "Program" "held_first" 0,
  fun K => slotB K "Program" "held_procedures" 1,
  fun K => isiB K "Form",
  fun K => isiB K "Procedure",
  fun K => isiB K "Program",
  fun K => statB K "Form" "begin",
  fun K => propB K "Procedure" "params",
  fun K => propB K "Procedure" "results",
  fun K => propB K "Program" "first",
  fun K => He.eqO (PySem.W.findIn K (.ref (He.ga K "Form")) "__ne__") (some (some (.builtin "object.__ne__"))),
  fun K => PySem.W.noSeq K (He.ga K "Form"),
  fun K => PySem.W.noSeq K (He.ga K "Program")]
def chk (K : PySem.W.Frag) : Bool := (fas.all fun f => f.ok K) && owns.all fun f => f K
structure Tx (K : PySem.W.Frag) (mg : Str → Option Value) : Prop where
  says : SaysM fns chk K
  ns : ∀ (x : Str) (r : Option Value), PySem.W.nsIn K mainGlobals x = some r → mg x = r
section
variable {K : PySem.W.Frag} {mg : Str → Option Value}
theorem Tx.fa (T : Tx K mg) (i : Nat) {f : He.Fa} (h : fas[i]? = some f := by rfl) : f.ok K = true := List.all_eq_true.mp (He.ba T.says.more).1 f (List.mem_of_getElem? h)
theorem Tx.own (T : Tx K mg) (i : Nat) {f : PySem.W.Frag → Bool} (h : owns[i]? = some f := by rfl) : f K = true := List.all_eq_true.mp (He.ba T.says.more).2 f (List.mem_of_getElem? h)
theorem Tx.of {h : Heap} (X : K.In h) (G : h.Ns mainGlobals mg) (c : SaysM fns chk K) : Tx K mg := ⟨c, fun x r e => by
  cases r with
  | some v => exact PySem.W.mg_of X G e
  | none => exact PySem.W.mg_none_of X G e⟩
theorem Tx.glo (T : Tx K mg) {x : Str} (c : (He.Fa.glo x).ok K = true) : mg x = some (.ref (He.ga K x)) := T.ns _ _ (He.eqO_ok c)
theorem Tx.fre (T : Tx K mg) {x : Str} (c : (He.Fa.free x).ok K = true) : mg x = none := T.ns _ _ (He.eqO_ok c)
theorem Tx.gint (T : Tx K mg) {x : Str} {i : Int} (c : (He.Fa.int x i).ok K = true) : ∃ t, mg x = some (.int i t) := by
  have c2 : (match PySem.W.nsIn K mainGlobals x with
    | some (some (.int j _)) => decide (j = i)
    | _ => false) = true := c
  cases e : PySem.W.nsIn K mainGlobals x with
  | none =>
    rw [e] at c2
    cases c2
  | some o =>
    rw [e] at c2
    cases o with
    | none => cases c2
    | some v =>
      cases v with
      | int j t =>
        have ej : j = i := of_decide_eq_true c2
        rw [ej] at e
        exact ⟨t, T.ns _ _ e⟩
      | _ => cases c2
theorem Tx.gstr (T : Tx K mg) {x z : Str} (c : (He.Fa.str x z).ok K = true) : ∃ t, mg x = some (.str z t) := by
  have c2 : (match PySem.W.nsIn K mainGlobals x with
    | some (some (.str y _)) => decide (y = z)
    | _ => false) = true := c
  cases e : PySem.W.nsIn K mainGlobals x with
  | none =>
    rw [e] at c2
    cases c2
  | some o =>
    rw [e] at c2
    cases o with
    | none => cases c2
    | some v =>
      cases v with
      | str y t =>
        have ej : y = z := of_decide_eq_true c2
        rw [ej] at e
        exact ⟨t, T.ns _ _ e⟩
      | _ => cases c2
theorem f_joined (T : Tx K mg) : ∃ fd, Fun K "joined" "joined" s_joined (a_joined K) fd := let ⟨fd, F⟩ := T.says.def_ 0 (d := d_joined) rfl; ⟨fd, He5.fun_of F⟩
theorem g_joined (T : Tx K mg) : mg "joined" = some (.ref (a_joined K)) := T.glo (T.fa 0 (f := .glo "joined") rfl)
theorem f_moved (T : Tx K mg) : ∃ fd, Fun K "moved" "moved" s_moved (a_moved K) fd := let ⟨fd, F⟩ := T.says.def_ 1 (d := d_moved) rfl; ⟨fd, He5.fun_of F⟩
theorem g_moved (T : Tx K mg) : mg "moved" = some (.ref (a_moved K)) := T.glo (T.fa 1 (f := .glo "moved") rfl)
theorem f_led_row (T : Tx K mg) : ∃ fd, Fun K "led_row" "led_row" s_led_row (a_led_row K) fd := let ⟨fd, F⟩ := T.says.def_ 2 (d := d_led_row) rfl; ⟨fd, He5.fun_of F⟩
theorem g_led_row (T : Tx K mg) : mg "led_row" = some (.ref (a_led_row K)) := T.glo (T.fa 2 (f := .glo "led_row") rfl)
theorem f_kinds_of (T : Tx K mg) : ∃ fd, Fun K "kinds_of" "kinds_of" s_kinds_of (a_kinds_of K) fd := let ⟨fd, F⟩ := T.says.def_ 3 (d := d_kinds_of) rfl; ⟨fd, He5.fun_of F⟩
theorem g_kinds_of (T : Tx K mg) : mg "kinds_of" = some (.ref (a_kinds_of K)) := T.glo (T.fa 3 (f := .glo "kinds_of") rfl)
theorem f_Form_init (T : Tx K mg) : ∃ fd, Fun K "__init__" "Form.__init__" s_Form_init (a_Form_init K) fd := let ⟨fd, F⟩ := T.says.def_ 4 (d := d_Form_init) rfl; ⟨fd, He5.fun_of F⟩
theorem m_Form_init (T : Tx K mg) : Meth K (He.ga K "Form") "__init__" (a_Form_init K) := He.meth_ok (T.fa 84 (f := .meth "Form" "__init__") rfl)
theorem f_Form_begin (T : Tx K mg) : ∃ fd, Fun K "begin" "Form.begin" s_Form_begin (a_Form_begin K) fd := let ⟨fd, F⟩ := T.says.def_ 5 (d := d_Form_begin) rfl; ⟨fd, He5.fun_of F⟩
theorem t_Form_begin (T : Tx K mg) : StatF K (He.ga K "Form") (He.ma K (He.ga K "Form") "begin") (a_Form_begin K) "begin" := statB_ok (T.own 13 (f := fun K => statB K "Form" "begin") rfl)
theorem f_Form_names (T : Tx K mg) : ∃ fd, Fun K "names" "Form.names" s_Form_names (a_Form_names K) fd := let ⟨fd, F⟩ := T.says.def_ 6 (d := d_Form_names) rfl; ⟨fd, He5.fun_of F⟩
theorem m_Form_names (T : Tx K mg) : Meth K (He.ga K "Form") "names" (a_Form_names K) := He.meth_ok (T.fa 85 (f := .meth "Form" "names") rfl)
theorem f_Form_dict_of (T : Tx K mg) : ∃ fd, Fun K "dict_of" "Form.dict_of" s_Form_dict_of (a_Form_dict_of K) fd := let ⟨fd, F⟩ := T.says.def_ 7 (d := d_Form_dict_of) rfl; ⟨fd, He5.fun_of F⟩
theorem m_Form_dict_of (T : Tx K mg) : Meth K (He.ga K "Form") "dict_of" (a_Form_dict_of K) := He.meth_ok (T.fa 86 (f := .meth "Form" "dict_of") rfl)
theorem f_Form_getitem (T : Tx K mg) : ∃ fd, Fun K "__getitem__" "Form.__getitem__" s_Form_getitem (a_Form_getitem K) fd := let ⟨fd, F⟩ := T.says.def_ 8 (d := d_Form_getitem) rfl; ⟨fd, He5.fun_of F⟩
theorem m_Form_getitem (T : Tx K mg) : Meth K (He.ga K "Form") "__getitem__" (a_Form_getitem K) := He.meth_ok (T.fa 87 (f := .meth "Form" "__getitem__") rfl)
theorem f_Form_with_table (T : Tx K mg) : ∃ fd, Fun K "with_table" "Form.with_table" s_Form_with_table (a_Form_with_table K) fd := let ⟨fd, F⟩ := T.says.def_ 9 (d := d_Form_with_table) rfl; ⟨fd, He5.fun_of F⟩
theorem m_Form_with_table (T : Tx K mg) : Meth K (He.ga K "Form") "with_table" (a_Form_with_table K) := He.meth_ok (T.fa 88 (f := .meth "Form" "with_table") rfl)
theorem f_Form_after (T : Tx K mg) : ∃ fd, Fun K "after" "Form.after" s_Form_after (a_Form_after K) fd := let ⟨fd, F⟩ := T.says.def_ 10 (d := d_Form_after) rfl; ⟨fd, He5.fun_of F⟩
theorem m_Form_after (T : Tx K mg) : Meth K (He.ga K "Form") "after" (a_Form_after K) := He.meth_ok (T.fa 89 (f := .meth "Form" "after") rfl)
theorem f_Form_handed (T : Tx K mg) : ∃ fd, Fun K "handed" "Form.handed" s_Form_handed (a_Form_handed K) fd := let ⟨fd, F⟩ := T.says.def_ 11 (d := d_Form_handed) rfl; ⟨fd, He5.fun_of F⟩
theorem m_Form_handed (T : Tx K mg) : Meth K (He.ga K "Form") "handed" (a_Form_handed K) := He.meth_ok (T.fa 90 (f := .meth "Form" "handed") rfl)
theorem f_Form_behind (T : Tx K mg) : ∃ fd, Fun K "behind" "Form.behind" s_Form_behind (a_Form_behind K) fd := let ⟨fd, F⟩ := T.says.def_ 12 (d := d_Form_behind) rfl; ⟨fd, He5.fun_of F⟩
theorem m_Form_behind (T : Tx K mg) : Meth K (He.ga K "Form") "behind" (a_Form_behind K) := He.meth_ok (T.fa 91 (f := .meth "Form" "behind") rfl)
theorem f_Form_entered (T : Tx K mg) : ∃ fd, Fun K "entered" "Form.entered" s_Form_entered (a_Form_entered K) fd := let ⟨fd, F⟩ := T.says.def_ 13 (d := d_Form_entered) rfl; ⟨fd, He5.fun_of F⟩
theorem m_Form_entered (T : Tx K mg) : Meth K (He.ga K "Form") "entered" (a_Form_entered K) := He.meth_ok (T.fa 92 (f := .meth "Form" "entered") rfl)
theorem f_Form_numbers (T : Tx K mg) : ∃ fd, Fun K "numbers" "Form.numbers" s_Form_numbers (a_Form_numbers K) fd := let ⟨fd, F⟩ := T.says.def_ 14 (d := d_Form_numbers) rfl; ⟨fd, He5.fun_of F⟩
theorem m_Form_numbers (T : Tx K mg) : Meth K (He.ga K "Form") "numbers" (a_Form_numbers K) := He.meth_ok (T.fa 93 (f := .meth "Form" "numbers") rfl)
theorem f_Form_apart (T : Tx K mg) : ∃ fd, Fun K "apart" "Form.apart" s_Form_apart (a_Form_apart K) fd := let ⟨fd, F⟩ := T.says.def_ 15 (d := d_Form_apart) rfl; ⟨fd, He5.fun_of F⟩
theorem m_Form_apart (T : Tx K mg) : Meth K (He.ga K "Form") "apart" (a_Form_apart K) := He.meth_ok (T.fa 94 (f := .meth "Form" "apart") rfl)
theorem f_Form_eq (T : Tx K mg) : ∃ fd, Fun K "__eq__" "Form.__eq__" s_Form_eq (a_Form_eq K) fd := let ⟨fd, F⟩ := T.says.def_ 16 (d := d_Form_eq) rfl; ⟨fd, He5.fun_of F⟩
theorem m_Form_eq (T : Tx K mg) : Meth K (He.ga K "Form") "__eq__" (a_Form_eq K) := He.meth_ok (T.fa 95 (f := .meth "Form" "__eq__") rfl)
theorem f_is_integer (T : Tx K mg) : ∃ fd, Fun K "is_integer" "is_integer" s_is_integer (a_is_integer K) fd := let ⟨fd, F⟩ := T.says.def_ 17 (d := d_is_integer) rfl; ⟨fd, He5.fun_of F⟩
theorem g_is_integer (T : Tx K mg) : mg "is_integer" = some (.ref (a_is_integer K)) := T.glo (T.fa 4 (f := .glo "is_integer") rfl)
theorem f_is_name (T : Tx K mg) : ∃ fd, Fun K "is_name" "is_name" s_is_name (a_is_name K) fd := let ⟨fd, F⟩ := T.says.def_ 18 (d := d_is_name) rfl; ⟨fd, He5.fun_of F⟩
theorem g_is_name (T : Tx K mg) : mg "is_name" = some (.ref (a_is_name K)) := T.glo (T.fa 5 (f := .glo "is_name") rfl)
theorem f_is_source (T : Tx K mg) : ∃ fd, Fun K "is_source" "is_source" s_is_source (a_is_source K) fd := let ⟨fd, F⟩ := T.says.def_ 19 (d := d_is_source) rfl; ⟨fd, He5.fun_of F⟩
theorem g_is_source (T : Tx K mg) : mg "is_source" = some (.ref (a_is_source K)) := T.glo (T.fa 6 (f := .glo "is_source") rfl)
theorem f_is_kind (T : Tx K mg) : ∃ fd, Fun K "is_kind" "is_kind" s_is_kind (a_is_kind K) fd := let ⟨fd, F⟩ := T.says.def_ 20 (d := d_is_kind) rfl; ⟨fd, He5.fun_of F⟩
theorem g_is_kind (T : Tx K mg) : mg "is_kind" = some (.ref (a_is_kind K)) := T.glo (T.fa 7 (f := .glo "is_kind") rfl)
theorem f_fits (T : Tx K mg) : ∃ fd, Fun K "fits" "fits" s_fits (a_fits K) fd := let ⟨fd, F⟩ := T.says.def_ 21 (d := d_fits) rfl; ⟨fd, He5.fun_of F⟩
theorem g_fits (T : Tx K mg) : mg "fits" = some (.ref (a_fits K)) := T.glo (T.fa 8 (f := .glo "fits") rfl)
theorem f_are_different (T : Tx K mg) : ∃ fd, Fun K "are_different" "are_different" s_are_different (a_are_different K) fd := let ⟨fd, F⟩ := T.says.def_ 22 (d := d_are_different) rfl; ⟨fd, He5.fun_of F⟩
theorem g_are_different (T : Tx K mg) : mg "are_different" = some (.ref (a_are_different K)) := T.glo (T.fa 9 (f := .glo "are_different") rfl)
theorem f_are_names (T : Tx K mg) : ∃ fd, Fun K "are_names" "are_names" s_are_names (a_are_names K) fd := let ⟨fd, F⟩ := T.says.def_ 23 (d := d_are_names) rfl; ⟨fd, He5.fun_of F⟩
theorem g_are_names (T : Tx K mg) : mg "are_names" = some (.ref (a_are_names K)) := T.glo (T.fa 10 (f := .glo "are_names") rfl)
theorem f_is_marked (T : Tx K mg) : ∃ fd, Fun K "is_marked" "is_marked" s_is_marked (a_is_marked K) fd := let ⟨fd, F⟩ := T.says.def_ 24 (d := d_is_marked) rfl; ⟨fd, He5.fun_of F⟩
theorem g_is_marked (T : Tx K mg) : mg "is_marked" = some (.ref (a_is_marked K)) := T.glo (T.fa 11 (f := .glo "is_marked") rfl)
theorem f_form_behind (T : Tx K mg) : ∃ fd, Fun K "form_behind" "form_behind" s_form_behind (a_form_behind K) fd := let ⟨fd, F⟩ := T.says.def_ 25 (d := d_form_behind) rfl; ⟨fd, He5.fun_of F⟩
theorem g_form_behind (T : Tx K mg) : mg "form_behind" = some (.ref (a_form_behind K)) := T.glo (T.fa 12 (f := .glo "form_behind") rfl)
theorem f_form_of_run (T : Tx K mg) : ∃ fd, Fun K "form_of_run" "form_of_run" s_form_of_run (a_form_of_run K) fd := let ⟨fd, F⟩ := T.says.def_ 26 (d := d_form_of_run) rfl; ⟨fd, He5.fun_of F⟩
theorem g_form_of_run (T : Tx K mg) : mg "form_of_run" = some (.ref (a_form_of_run K)) := T.glo (T.fa 13 (f := .glo "form_of_run") rfl)
theorem f_form_at (T : Tx K mg) : ∃ fd, Fun K "form_at" "form_at" s_form_at (a_form_at K) fd := let ⟨fd, F⟩ := T.says.def_ 27 (d := d_form_at) rfl; ⟨fd, He5.fun_of F⟩
theorem g_form_at (T : Tx K mg) : mg "form_at" = some (.ref (a_form_at K)) := T.glo (T.fa 14 (f := .glo "form_at") rfl)
theorem f_played (T : Tx K mg) : ∃ fd, Fun K "played" "played" s_played (a_played K) fd := let ⟨fd, F⟩ := T.says.def_ 28 (d := d_played) rfl; ⟨fd, He5.fun_of F⟩
theorem g_played (T : Tx K mg) : mg "played" = some (.ref (a_played K)) := T.glo (T.fa 15 (f := .glo "played") rfl)
theorem f_is_part (T : Tx K mg) : ∃ fd, Fun K "is_part" "is_part" s_is_part (a_is_part K) fd := let ⟨fd, F⟩ := T.says.def_ 29 (d := d_is_part) rfl; ⟨fd, He5.fun_of F⟩
theorem g_is_part (T : Tx K mg) : mg "is_part" = some (.ref (a_is_part K)) := T.glo (T.fa 16 (f := .glo "is_part") rfl)
theorem f_are_parts (T : Tx K mg) : ∃ fd, Fun K "are_parts" "are_parts" s_are_parts (a_are_parts K) fd := let ⟨fd, F⟩ := T.says.def_ 30 (d := d_are_parts) rfl; ⟨fd, He5.fun_of F⟩
theorem g_are_parts (T : Tx K mg) : mg "are_parts" = some (.ref (a_are_parts K)) := T.glo (T.fa 17 (f := .glo "are_parts") rfl)
theorem f_is_set_part (T : Tx K mg) : ∃ fd, Fun K "is_set_part" "is_set_part" s_is_set_part (a_is_set_part K) fd := let ⟨fd, F⟩ := T.says.def_ 31 (d := d_is_set_part) rfl; ⟨fd, He5.fun_of F⟩
theorem g_is_set_part (T : Tx K mg) : mg "is_set_part" = some (.ref (a_is_set_part K)) := T.glo (T.fa 18 (f := .glo "is_set_part") rfl)
theorem f_is_set (T : Tx K mg) : ∃ fd, Fun K "is_set" "is_set" s_is_set (a_is_set K) fd := let ⟨fd, F⟩ := T.says.def_ 32 (d := d_is_set) rfl; ⟨fd, He5.fun_of F⟩
theorem g_is_set (T : Tx K mg) : mg "is_set" = some (.ref (a_is_set K)) := T.glo (T.fa 19 (f := .glo "is_set") rfl)
theorem f_is_call (T : Tx K mg) : ∃ fd, Fun K "is_call" "is_call" s_is_call (a_is_call K) fd := let ⟨fd, F⟩ := T.says.def_ 33 (d := d_is_call) rfl; ⟨fd, He5.fun_of F⟩
theorem g_is_call (T : Tx K mg) : mg "is_call" = some (.ref (a_is_call K)) := T.glo (T.fa 20 (f := .glo "is_call") rfl)
theorem f_is_statement (T : Tx K mg) : ∃ fd, Fun K "is_statement" "is_statement" s_is_statement (a_is_statement K) fd := let ⟨fd, F⟩ := T.says.def_ 34 (d := d_is_statement) rfl; ⟨fd, He5.fun_of F⟩
theorem g_is_statement (T : Tx K mg) : mg "is_statement" = some (.ref (a_is_statement K)) := T.glo (T.fa 21 (f := .glo "is_statement") rfl)
theorem f_frozen (T : Tx K mg) : ∃ fd, Fun K "frozen" "frozen" s_frozen (a_frozen K) fd := let ⟨fd, F⟩ := T.says.def_ 35 (d := d_frozen) rfl; ⟨fd, He5.fun_of F⟩
theorem g_frozen (T : Tx K mg) : mg "frozen" = some (.ref (a_frozen K)) := T.glo (T.fa 22 (f := .glo "frozen") rfl)
theorem f_sets (T : Tx K mg) : ∃ fd, Fun K "sets" "sets" s_sets (a_sets K) fd := let ⟨fd, F⟩ := T.says.def_ 36 (d := d_sets) rfl; ⟨fd, He5.fun_of F⟩
theorem g_sets (T : Tx K mg) : mg "sets" = some (.ref (a_sets K)) := T.glo (T.fa 23 (f := .glo "sets") rfl)
theorem f_parts_of (T : Tx K mg) : ∃ fd, Fun K "parts_of" "parts_of" s_parts_of (a_parts_of K) fd := let ⟨fd, F⟩ := T.says.def_ 37 (d := d_parts_of) rfl; ⟨fd, He5.fun_of F⟩
theorem g_parts_of (T : Tx K mg) : mg "parts_of" = some (.ref (a_parts_of K)) := T.glo (T.fa 24 (f := .glo "parts_of") rfl)
theorem f_reads (T : Tx K mg) : ∃ fd, Fun K "reads" "reads" s_reads (a_reads K) fd := let ⟨fd, F⟩ := T.says.def_ 38 (d := d_reads) rfl; ⟨fd, He5.fun_of F⟩
theorem g_reads (T : Tx K mg) : mg "reads" = some (.ref (a_reads K)) := T.glo (T.fa 25 (f := .glo "reads") rfl)
theorem f_is_way (T : Tx K mg) : ∃ fd, Fun K "is_way" "is_way" s_is_way (a_is_way K) fd := let ⟨fd, F⟩ := T.says.def_ 39 (d := d_is_way) rfl; ⟨fd, He5.fun_of F⟩
theorem g_is_way (T : Tx K mg) : mg "is_way" = some (.ref (a_is_way K)) := T.glo (T.fa 26 (f := .glo "is_way") rfl)
theorem f_are_kinds (T : Tx K mg) : ∃ fd, Fun K "are_kinds" "are_kinds" s_are_kinds (a_are_kinds K) fd := let ⟨fd, F⟩ := T.says.def_ 40 (d := d_are_kinds) rfl; ⟨fd, He5.fun_of F⟩
theorem g_are_kinds (T : Tx K mg) : mg "are_kinds" = some (.ref (a_are_kinds K)) := T.glo (T.fa 27 (f := .glo "are_kinds") rfl)
theorem f_targets (T : Tx K mg) : ∃ fd, Fun K "targets" "targets" s_targets (a_targets K) fd := let ⟨fd, F⟩ := T.says.def_ 41 (d := d_targets) rfl; ⟨fd, He5.fun_of F⟩
theorem g_targets (T : Tx K mg) : mg "targets" = some (.ref (a_targets K)) := T.glo (T.fa 28 (f := .glo "targets") rfl)
theorem f_Procedure_init (T : Tx K mg) : ∃ fd, Fun K "__init__" "Procedure.__init__" s_Procedure_init (a_Procedure_init K) fd := let ⟨fd, F⟩ := T.says.def_ 42 (d := d_Procedure_init) rfl; ⟨fd, He5.fun_of F⟩
theorem m_Procedure_init (T : Tx K mg) : Meth K (He.ga K "Procedure") "__init__" (a_Procedure_init K) := He.meth_ok (T.fa 96 (f := .meth "Procedure" "__init__") rfl)
theorem f_Procedure_need_names (T : Tx K mg) : ∃ fd, Fun K "need_names" "Procedure.need_names" s_Procedure_need_names (a_Procedure_need_names K) fd := let ⟨fd, F⟩ := T.says.def_ 43 (d := d_Procedure_need_names) rfl; ⟨fd, He5.fun_of F⟩
theorem m_Procedure_need_names (T : Tx K mg) : Meth K (He.ga K "Procedure") "need_names" (a_Procedure_need_names K) := He.meth_ok (T.fa 97 (f := .meth "Procedure" "need_names") rfl)
theorem f_Procedure_need_places (T : Tx K mg) : ∃ fd, Fun K "need_places" "Procedure.need_places" s_Procedure_need_places (a_Procedure_need_places K) fd := let ⟨fd, F⟩ := T.says.def_ 44 (d := d_Procedure_need_places) rfl; ⟨fd, He5.fun_of F⟩
theorem m_Procedure_need_places (T : Tx K mg) : Meth K (He.ga K "Procedure") "need_places" (a_Procedure_need_places K) := He.meth_ok (T.fa 98 (f := .meth "Procedure" "need_places") rfl)
theorem f_Procedure_need_place (T : Tx K mg) : ∃ fd, Fun K "need_place" "Procedure.need_place" s_Procedure_need_place (a_Procedure_need_place K) fd := let ⟨fd, F⟩ := T.says.def_ 45 (d := d_Procedure_need_place) rfl; ⟨fd, He5.fun_of F⟩
theorem m_Procedure_need_place (T : Tx K mg) : Meth K (He.ga K "Procedure") "need_place" (a_Procedure_need_place K) := He.meth_ok (T.fa 99 (f := .meth "Procedure" "need_place") rfl)
theorem f_Procedure_need_kinds (T : Tx K mg) : ∃ fd, Fun K "need_kinds" "Procedure.need_kinds" s_Procedure_need_kinds (a_Procedure_need_kinds K) fd := let ⟨fd, F⟩ := T.says.def_ 46 (d := d_Procedure_need_kinds) rfl; ⟨fd, He5.fun_of F⟩
theorem m_Procedure_need_kinds (T : Tx K mg) : Meth K (He.ga K "Procedure") "need_kinds" (a_Procedure_need_kinds K) := He.meth_ok (T.fa 100 (f := .meth "Procedure" "need_kinds") rfl)
theorem f_Procedure_need_way (T : Tx K mg) : ∃ fd, Fun K "need_way" "Procedure.need_way" s_Procedure_need_way (a_Procedure_need_way K) fd := let ⟨fd, F⟩ := T.says.def_ 47 (d := d_Procedure_need_way) rfl; ⟨fd, He5.fun_of F⟩
theorem m_Procedure_need_way (T : Tx K mg) : Meth K (He.ga K "Procedure") "need_way" (a_Procedure_need_way K) := He.meth_ok (T.fa 101 (f := .meth "Procedure" "need_way") rfl)
theorem f_Procedure_params (T : Tx K mg) : ∃ fd, Fun K "params" "Procedure.params" s_Procedure_params (a_Procedure_params K) fd := let ⟨fd, F⟩ := T.says.def_ 48 (d := d_Procedure_params) rfl; ⟨fd, He5.fun_of F⟩
theorem p_Procedure_params (T : Tx K mg) : PropF K (He.ga K "Procedure") (He.ma K (He.ga K "Procedure") "params") (a_Procedure_params K) "params" := propB_ok (T.own 14 (f := fun K => propB K "Procedure" "params") rfl)
theorem f_Procedure_results (T : Tx K mg) : ∃ fd, Fun K "results" "Procedure.results" s_Procedure_results (a_Procedure_results K) fd := let ⟨fd, F⟩ := T.says.def_ 49 (d := d_Procedure_results) rfl; ⟨fd, He5.fun_of F⟩
theorem p_Procedure_results (T : Tx K mg) : PropF K (He.ga K "Procedure") (He.ma K (He.ga K "Procedure") "results") (a_Procedure_results K) "results" := propB_ok (T.own 15 (f := fun K => propB K "Procedure" "results") rfl)
theorem f_Procedure_names (T : Tx K mg) : ∃ fd, Fun K "names" "Procedure.names" s_Procedure_names (a_Procedure_names K) fd := let ⟨fd, F⟩ := T.says.def_ 50 (d := d_Procedure_names) rfl; ⟨fd, He5.fun_of F⟩
theorem m_Procedure_names (T : Tx K mg) : Meth K (He.ga K "Procedure") "names" (a_Procedure_names K) := He.meth_ok (T.fa 102 (f := .meth "Procedure" "names") rfl)
theorem f_Procedure_kind (T : Tx K mg) : ∃ fd, Fun K "kind" "Procedure.kind" s_Procedure_kind (a_Procedure_kind K) fd := let ⟨fd, F⟩ := T.says.def_ 51 (d := d_Procedure_kind) rfl; ⟨fd, He5.fun_of F⟩
theorem m_Procedure_kind (T : Tx K mg) : Meth K (He.ga K "Procedure") "kind" (a_Procedure_kind K) := He.meth_ok (T.fa 103 (f := .meth "Procedure" "kind") rfl)
theorem f_Procedure_ways (T : Tx K mg) : ∃ fd, Fun K "ways" "Procedure.ways" s_Procedure_ways (a_Procedure_ways K) fd := let ⟨fd, F⟩ := T.says.def_ 52 (d := d_Procedure_ways) rfl; ⟨fd, He5.fun_of F⟩
theorem m_Procedure_ways (T : Tx K mg) : Meth K (He.ga K "Procedure") "ways" (a_Procedure_ways K) := He.meth_ok (T.fa 104 (f := .meth "Procedure" "ways") rfl)
theorem f_Procedure_way (T : Tx K mg) : ∃ fd, Fun K "way" "Procedure.way" s_Procedure_way (a_Procedure_way K) fd := let ⟨fd, F⟩ := T.says.def_ 53 (d := d_Procedure_way) rfl; ⟨fd, He5.fun_of F⟩
theorem m_Procedure_way (T : Tx K mg) : Meth K (He.ga K "Procedure") "way" (a_Procedure_way K) := He.meth_ok (T.fa 105 (f := .meth "Procedure" "way") rfl)
theorem f_are_procedures (T : Tx K mg) : ∃ fd, Fun K "are_procedures" "are_procedures" s_are_procedures (a_are_procedures K) fd := let ⟨fd, F⟩ := T.says.def_ 54 (d := d_are_procedures) rfl; ⟨fd, He5.fun_of F⟩
theorem g_are_procedures (T : Tx K mg) : mg "are_procedures" = some (.ref (a_are_procedures K)) := T.glo (T.fa 29 (f := .glo "are_procedures") rfl)
theorem f_calls (T : Tx K mg) : ∃ fd, Fun K "calls" "calls" s_calls (a_calls K) fd := let ⟨fd, F⟩ := T.says.def_ 55 (d := d_calls) rfl; ⟨fd, He5.fun_of F⟩
theorem g_calls (T : Tx K mg) : mg "calls" = some (.ref (a_calls K)) := T.glo (T.fa 30 (f := .glo "calls") rfl)
theorem f_is_fit (T : Tx K mg) : ∃ fd, Fun K "is_fit" "is_fit" s_is_fit (a_is_fit K) fd := let ⟨fd, F⟩ := T.says.def_ 56 (d := d_is_fit) rfl; ⟨fd, He5.fun_of F⟩
theorem g_is_fit (T : Tx K mg) : mg "is_fit" = some (.ref (a_is_fit K)) := T.glo (T.fa 31 (f := .glo "is_fit") rfl)
theorem f_Program_init (T : Tx K mg) : ∃ fd, Fun K "__init__" "Program.__init__" s_Program_init (a_Program_init K) fd := let ⟨fd, F⟩ := T.says.def_ 57 (d := d_Program_init) rfl; ⟨fd, He5.fun_of F⟩
theorem m_Program_init (T : Tx K mg) : Meth K (He.ga K "Program") "__init__" (a_Program_init K) := He.meth_ok (T.fa 106 (f := .meth "Program" "__init__") rfl)
theorem f_Program_need (T : Tx K mg) : ∃ fd, Fun K "need" "Program.need" s_Program_need (a_Program_need K) fd := let ⟨fd, F⟩ := T.says.def_ 58 (d := d_Program_need) rfl; ⟨fd, He5.fun_of F⟩
theorem m_Program_need (T : Tx K mg) : Meth K (He.ga K "Program") "need" (a_Program_need K) := He.meth_ok (T.fa 107 (f := .meth "Program" "need") rfl)
theorem f_Program_need_called (T : Tx K mg) : ∃ fd, Fun K "need_called" "Program.need_called" s_Program_need_called (a_Program_need_called K) fd := let ⟨fd, F⟩ := T.says.def_ 59 (d := d_Program_need_called) rfl; ⟨fd, He5.fun_of F⟩
theorem m_Program_need_called (T : Tx K mg) : Meth K (He.ga K "Program") "need_called" (a_Program_need_called K) := He.meth_ok (T.fa 108 (f := .meth "Program" "need_called") rfl)
theorem f_Program_need_fit (T : Tx K mg) : ∃ fd, Fun K "need_fit" "Program.need_fit" s_Program_need_fit (a_Program_need_fit K) fd := let ⟨fd, F⟩ := T.says.def_ 60 (d := d_Program_need_fit) rfl; ⟨fd, He5.fun_of F⟩
theorem m_Program_need_fit (T : Tx K mg) : Meth K (He.ga K "Program") "need_fit" (a_Program_need_fit K) := He.meth_ok (T.fa 109 (f := .meth "Program" "need_fit") rfl)
theorem f_Program_first (T : Tx K mg) : ∃ fd, Fun K "first" "Program.first" s_Program_first (a_Program_first K) fd := let ⟨fd, F⟩ := T.says.def_ 61 (d := d_Program_first) rfl; ⟨fd, He5.fun_of F⟩
theorem p_Program_first (T : Tx K mg) : PropF K (He.ga K "Program") (He.ma K (He.ga K "Program") "first") (a_Program_first K) "first" := propB_ok (T.own 16 (f := fun K => propB K "Program" "first") rfl)
theorem f_Program_getitem (T : Tx K mg) : ∃ fd, Fun K "__getitem__" "Program.__getitem__" s_Program_getitem (a_Program_getitem K) fd := let ⟨fd, F⟩ := T.says.def_ 62 (d := d_Program_getitem) rfl; ⟨fd, He5.fun_of F⟩
theorem m_Program_getitem (T : Tx K mg) : Meth K (He.ga K "Program") "__getitem__" (a_Program_getitem K) := He.meth_ok (T.fa 110 (f := .meth "Program" "__getitem__") rfl)
theorem f_l_bag (T : Tx K mg) : ∃ fd, Fun K "_law_bag" "_law_bag" s_l_bag (a_l_bag K) fd := let ⟨fd, F⟩ := T.says.def_ 63 (d := d_l_bag) rfl; ⟨fd, He5.fun_of F⟩
theorem g_l_bag (T : Tx K mg) : mg "_law_bag" = some (.ref (a_l_bag K)) := T.glo (T.fa 32 (f := .glo "_law_bag") rfl)
theorem f_l_take (T : Tx K mg) : ∃ fd, Fun K "_law_take" "_law_take" s_l_take (a_l_take K) fd := let ⟨fd, F⟩ := T.says.def_ 64 (d := d_l_take) rfl; ⟨fd, He5.fun_of F⟩
theorem g_l_take (T : Tx K mg) : mg "_law_take" = some (.ref (a_l_take K)) := T.glo (T.fa 33 (f := .glo "_law_take") rfl)
theorem f_l_mixed (T : Tx K mg) : ∃ fd, Fun K "_law_mixed" "_law_mixed" s_l_mixed (a_l_mixed K) fd := let ⟨fd, F⟩ := T.says.def_ 65 (d := d_l_mixed) rfl; ⟨fd, He5.fun_of F⟩
theorem g_l_mixed (T : Tx K mg) : mg "_law_mixed" = some (.ref (a_l_mixed K)) := T.glo (T.fa 34 (f := .glo "_law_mixed") rfl)
theorem f_l_names (T : Tx K mg) : ∃ fd, Fun K "_law_names" "_law_names" s_l_names (a_l_names K) fd := let ⟨fd, F⟩ := T.says.def_ 66 (d := d_l_names) rfl; ⟨fd, He5.fun_of F⟩
theorem g_l_names (T : Tx K mg) : mg "_law_names" = some (.ref (a_l_names K)) := T.glo (T.fa 35 (f := .glo "_law_names") rfl)
theorem f_l_number (T : Tx K mg) : ∃ fd, Fun K "_law_number" "_law_number" s_l_number (a_l_number K) fd := let ⟨fd, F⟩ := T.says.def_ 67 (d := d_l_number) rfl; ⟨fd, He5.fun_of F⟩
theorem g_l_number (T : Tx K mg) : mg "_law_number" = some (.ref (a_l_number K)) := T.glo (T.fa 36 (f := .glo "_law_number") rfl)
theorem f_l_kinds (T : Tx K mg) : ∃ fd, Fun K "_law_kinds" "_law_kinds" s_l_kinds (a_l_kinds K) fd := let ⟨fd, F⟩ := T.says.def_ 68 (d := d_l_kinds) rfl; ⟨fd, He5.fun_of F⟩
theorem g_l_kinds (T : Tx K mg) : mg "_law_kinds" = some (.ref (a_l_kinds K)) := T.glo (T.fa 37 (f := .glo "_law_kinds") rfl)
theorem f_l_part (T : Tx K mg) : ∃ fd, Fun K "_law_part" "_law_part" s_l_part (a_l_part K) fd := let ⟨fd, F⟩ := T.says.def_ 69 (d := d_l_part) rfl; ⟨fd, He5.fun_of F⟩
theorem g_l_part (T : Tx K mg) : mg "_law_part" = some (.ref (a_l_part K)) := T.glo (T.fa 38 (f := .glo "_law_part") rfl)
theorem f_l_statement (T : Tx K mg) : ∃ fd, Fun K "_law_statement" "_law_statement" s_l_statement (a_l_statement K) fd := let ⟨fd, F⟩ := T.says.def_ 70 (d := d_l_statement) rfl; ⟨fd, He5.fun_of F⟩
theorem g_l_statement (T : Tx K mg) : mg "_law_statement" = some (.ref (a_l_statement K)) := T.glo (T.fa 39 (f := .glo "_law_statement") rfl)
theorem f_l_call (T : Tx K mg) : ∃ fd, Fun K "_law_call" "_law_call" s_l_call (a_l_call K) fd := let ⟨fd, F⟩ := T.says.def_ 71 (d := d_l_call) rfl; ⟨fd, He5.fun_of F⟩
theorem g_l_call (T : Tx K mg) : mg "_law_call" = some (.ref (a_l_call K)) := T.glo (T.fa 40 (f := .glo "_law_call") rfl)
theorem f_l_ways (T : Tx K mg) : ∃ fd, Fun K "_law_ways" "_law_ways" s_l_ways (a_l_ways K) fd := let ⟨fd, F⟩ := T.says.def_ 72 (d := d_l_ways) rfl; ⟨fd, He5.fun_of F⟩
theorem g_l_ways (T : Tx K mg) : mg "_law_ways" = some (.ref (a_l_ways K)) := T.glo (T.fa 41 (f := .glo "_law_ways") rfl)
theorem f_l_model (T : Tx K mg) : ∃ fd, Fun K "_law_model" "_law_model" s_l_model (a_l_model K) fd := let ⟨fd, F⟩ := T.says.def_ 73 (d := d_l_model) rfl; ⟨fd, He5.fun_of F⟩
theorem g_l_model (T : Tx K mg) : mg "_law_model" = some (.ref (a_l_model K)) := T.glo (T.fa 42 (f := .glo "_law_model") rfl)
theorem f_l_procedure (T : Tx K mg) : ∃ fd, Fun K "_law_procedure" "_law_procedure" s_l_procedure (a_l_procedure K) fd := let ⟨fd, F⟩ := T.says.def_ 74 (d := d_l_procedure) rfl; ⟨fd, He5.fun_of F⟩
theorem g_l_procedure (T : Tx K mg) : mg "_law_procedure" = some (.ref (a_l_procedure K)) := T.glo (T.fa 43 (f := .glo "_law_procedure") rfl)
theorem f_l_program (T : Tx K mg) : ∃ fd, Fun K "_law_program" "_law_program" s_l_program (a_l_program K) fd := let ⟨fd, F⟩ := T.says.def_ 75 (d := d_l_program) rfl; ⟨fd, He5.fun_of F⟩
theorem g_l_program (T : Tx K mg) : mg "_law_program" = some (.ref (a_l_program K)) := T.glo (T.fa 44 (f := .glo "_law_program") rfl)
theorem f_l_drawn_start (T : Tx K mg) : ∃ fd, Fun K "_law_drawn_start" "_law_drawn_start" s_l_drawn_start (a_l_drawn_start K) fd := let ⟨fd, F⟩ := T.says.def_ 76 (d := d_l_drawn_start) rfl; ⟨fd, He5.fun_of F⟩
theorem g_l_drawn_start (T : Tx K mg) : mg "_law_drawn_start" = some (.ref (a_l_drawn_start K)) := T.glo (T.fa 45 (f := .glo "_law_drawn_start") rfl)
theorem f_l_gone_on (T : Tx K mg) : ∃ fd, Fun K "_law_gone_on" "_law_gone_on" s_l_gone_on (a_l_gone_on K) fd := let ⟨fd, F⟩ := T.says.def_ 77 (d := d_l_gone_on) rfl; ⟨fd, He5.fun_of F⟩
theorem g_l_gone_on (T : Tx K mg) : mg "_law_gone_on" = some (.ref (a_l_gone_on K)) := T.glo (T.fa 46 (f := .glo "_law_gone_on") rfl)
theorem f_l_drawn_run (T : Tx K mg) : ∃ fd, Fun K "_law_drawn_run" "_law_drawn_run" s_l_drawn_run (a_l_drawn_run K) fd := let ⟨fd, F⟩ := T.says.def_ 78 (d := d_l_drawn_run) rfl; ⟨fd, He5.fun_of F⟩
theorem g_l_drawn_run (T : Tx K mg) : mg "_law_drawn_run" = some (.ref (a_l_drawn_run K)) := T.glo (T.fa 47 (f := .glo "_law_drawn_run") rfl)
theorem f_l_drawn_moment (T : Tx K mg) : ∃ fd, Fun K "_law_drawn_moment" "_law_drawn_moment" s_l_drawn_moment (a_l_drawn_moment K) fd := let ⟨fd, F⟩ := T.says.def_ 79 (d := d_l_drawn_moment) rfl; ⟨fd, He5.fun_of F⟩
theorem g_l_drawn_moment (T : Tx K mg) : mg "_law_drawn_moment" = some (.ref (a_l_drawn_moment K)) := T.glo (T.fa 48 (f := .glo "_law_drawn_moment") rfl)
theorem f_l_head (T : Tx K mg) : ∃ fd, Fun K "_law_head" "_law_head" s_l_head (a_l_head K) fd := let ⟨fd, F⟩ := T.says.def_ 80 (d := d_l_head) rfl; ⟨fd, He5.fun_of F⟩
theorem g_l_head (T : Tx K mg) : mg "_law_head" = some (.ref (a_l_head K)) := T.glo (T.fa 49 (f := .glo "_law_head") rfl)
theorem f_l_run_form (T : Tx K mg) : ∃ fd, Fun K "_law_run_form" "_law_run_form" s_l_run_form (a_l_run_form K) fd := let ⟨fd, F⟩ := T.says.def_ 81 (d := d_l_run_form) rfl; ⟨fd, He5.fun_of F⟩
theorem g_l_run_form (T : Tx K mg) : mg "_law_run_form" = some (.ref (a_l_run_form K)) := T.glo (T.fa 50 (f := .glo "_law_run_form") rfl)
theorem f_l_stepped (T : Tx K mg) : ∃ fd, Fun K "_law_stepped" "_law_stepped" s_l_stepped (a_l_stepped K) fd := let ⟨fd, F⟩ := T.says.def_ 82 (d := d_l_stepped) rfl; ⟨fd, He5.fun_of F⟩
theorem g_l_stepped (T : Tx K mg) : mg "_law_stepped" = some (.ref (a_l_stepped K)) := T.glo (T.fa 51 (f := .glo "_law_stepped") rfl)
theorem f_l_steps_right (T : Tx K mg) : ∃ fd, Fun K "_law_steps_right" "_law_steps_right" s_l_steps_right (a_l_steps_right K) fd := let ⟨fd, F⟩ := T.says.def_ 83 (d := d_l_steps_right) rfl; ⟨fd, He5.fun_of F⟩
theorem g_l_steps_right (T : Tx K mg) : mg "_law_steps_right" = some (.ref (a_l_steps_right K)) := T.glo (T.fa 52 (f := .glo "_law_steps_right") rfl)
theorem f_l_apart_right (T : Tx K mg) : ∃ fd, Fun K "_law_apart_right" "_law_apart_right" s_l_apart_right (a_l_apart_right K) fd := let ⟨fd, F⟩ := T.says.def_ 84 (d := d_l_apart_right) rfl; ⟨fd, He5.fun_of F⟩
theorem g_l_apart_right (T : Tx K mg) : mg "_law_apart_right" = some (.ref (a_l_apart_right K)) := T.glo (T.fa 53 (f := .glo "_law_apart_right") rfl)
theorem f_law (T : Tx K mg) : ∃ fd, Fun K "law" "law" s_law (a_law K) fd := let ⟨fd, F⟩ := T.says.def_ 85 (d := d_law) rfl; ⟨fd, He5.fun_of F⟩
theorem g_law (T : Tx K mg) : mg "law" = some (.ref (a_law K)) := T.glo (T.fa 54 (f := .glo "law") rfl)
theorem g_Form (T : Tx K mg) : mg "Form" = some (.ref (He.ga K "Form")) := T.glo (T.fa 55 (f := .glo "Form") rfl)
theorem k_Form (T : Tx K mg) : Mk K (He.ga K "Form") (a_Form_init K) := He.mkr_ok (T.fa 111 (f := .mkr "Form") rfl)
theorem g_Procedure (T : Tx K mg) : mg "Procedure" = some (.ref (He.ga K "Procedure")) := T.glo (T.fa 56 (f := .glo "Procedure") rfl)
theorem k_Procedure (T : Tx K mg) : Mk K (He.ga K "Procedure") (a_Procedure_init K) := He.mkr_ok (T.fa 112 (f := .mkr "Procedure") rfl)
theorem g_Program (T : Tx K mg) : mg "Program" = some (.ref (He.ga K "Program")) := T.glo (T.fa 57 (f := .glo "Program") rfl)
theorem k_Program (T : Tx K mg) : Mk K (He.ga K "Program") (a_Program_init K) := He.mkr_ok (T.fa 113 (f := .mkr "Program") rfl)
theorem g_KINDS (T : Tx K mg) : mg "KINDS" = some (.ref (He.ga K "KINDS")) := T.glo (T.fa 58 (f := .glo "KINDS") rfl)
theorem n_isinstance (T : Tx K mg) : mg "isinstance" = none := T.fre (T.fa 59 (f := .free "isinstance") rfl)
theorem n_int (T : Tx K mg) : mg "int" = none := T.fre (T.fa 60 (f := .free "int") rfl)
theorem n_bool (T : Tx K mg) : mg "bool" = none := T.fre (T.fa 61 (f := .free "bool") rfl)
theorem n_str (T : Tx K mg) : mg "str" = none := T.fre (T.fa 62 (f := .free "str") rfl)
theorem n_tuple (T : Tx K mg) : mg "tuple" = none := T.fre (T.fa 63 (f := .free "tuple") rfl)
theorem n_list (T : Tx K mg) : mg "list" = none := T.fre (T.fa 64 (f := .free "list") rfl)
theorem n_dict (T : Tx K mg) : mg "dict" = none := T.fre (T.fa 65 (f := .free "dict") rfl)
theorem n_set (T : Tx K mg) : mg "set" = none := T.fre (T.fa 66 (f := .free "set") rfl)
theorem n_len (T : Tx K mg) : mg "len" = none := T.fre (T.fa 67 (f := .free "len") rfl)
theorem n_all (T : Tx K mg) : mg "all" = none := T.fre (T.fa 68 (f := .free "all") rfl)
theorem n_sorted (T : Tx K mg) : mg "sorted" = none := T.fre (T.fa 69 (f := .free "sorted") rfl)
theorem n_min (T : Tx K mg) : mg "min" = none := T.fre (T.fa 70 (f := .free "min") rfl)
theorem n_max (T : Tx K mg) : mg "max" = none := T.fre (T.fa 71 (f := .free "max") rfl)
theorem n_zip (T : Tx K mg) : mg "zip" = none := T.fre (T.fa 72 (f := .free "zip") rfl)
theorem n_enumerate (T : Tx K mg) : mg "enumerate" = none := T.fre (T.fa 73 (f := .free "enumerate") rfl)
theorem n_range (T : Tx K mg) : mg "range" = none := T.fre (T.fa 74 (f := .free "range") rfl)
theorem n_abs (T : Tx K mg) : mg "abs" = none := T.fre (T.fa 75 (f := .free "abs") rfl)
theorem z_ZERO (T : Tx K mg) : ∃ t, mg "ZERO" = some (.str "" t) := T.gstr (T.fa 76 (f := .str "ZERO" "") rfl)
theorem z_LETTERS (T : Tx K mg) : ∃ t, mg "LETTERS" = some (.str "abcdefghijklmnopqrstuvwxyz" t) := T.gstr (T.fa 77 (f := .str "LETTERS" "abcdefghijklmnopqrstuvwxyz") rfl)
theorem z_LONGEST (T : Tx K mg) : ∃ t, mg "LONGEST" = some (.int 8 t) := T.gint (T.fa 78 (f := .int "LONGEST" 8) rfl)
theorem c_Form (T : Tx K mg) : Cls K (He.ga K "Form") := He.cls_ok (T.fa 79 (f := .cls "Form") rfl)
theorem no_its_kinds (T : Tx K mg) : NoAttr K (He.ga K "Form") "its_kinds" := He.noat_ok (T.fa 80 (f := .noat "Form" "its_kinds") rfl)
theorem no_its_params (T : Tx K mg) : NoAttr K (He.ga K "Form") "its_params" := He.noat_ok (T.fa 81 (f := .noat "Form" "its_params") rfl)
theorem no_its_results (T : Tx K mg) : NoAttr K (He.ga K "Form") "its_results" := He.noat_ok (T.fa 82 (f := .noat "Form" "its_results") rfl)
theorem no_its_table (T : Tx K mg) : NoAttr K (He.ga K "Form") "its_table" := He.noat_ok (T.fa 83 (f := .noat "Form" "its_table") rfl)
theorem c_Procedure (T : Tx K mg) : SlX.SCls K (He.ga K "Procedure") := sclsB_ok (T.own 1 (f := fun K => sclsB K "Procedure") rfl)
theorem c_Program (T : Tx K mg) : SlX.SCls K (He.ga K "Program") := sclsB_ok (T.own 2 (f := fun K => sclsB K "Program") rfl)
theorem sl_held_kinds (T : Tx K mg) : SlX.Slot1 K (He.ga K "Procedure") "held_kinds" (He.ma K (He.ga K "Procedure") "held_kinds") 0 := slotB_ok (T.own 3 (f := fun K => slotB K "Procedure" "held_kinds" 0) rfl)
theorem sl_held_params (T : Tx K mg) : SlX.Slot1 K (He.ga K "Procedure") "held_params" (He.ma K (He.ga K "Procedure") "held_params") 1 := slotB_ok (T.own 4 (f := fun K => slotB K "Procedure" "held_params" 1) rfl)
theorem sl_held_results (T : Tx K mg) : SlX.Slot1 K (He.ga K "Procedure") "held_results" (He.ma K (He.ga K "Procedure") "held_results") 2 := slotB_ok (T.own 5 (f := fun K => slotB K "Procedure" "held_results" 2) rfl)
theorem sl_held_size (T : Tx K mg) : SlX.Slot1 K (He.ga K "Procedure") "held_size" (He.ma K (He.ga K "Procedure") "held_size") 3 := slotB_ok (T.own 6 (f := fun K => slotB K "Procedure" "held_size" 3) rfl)
theorem sl_held_ways (T : Tx K mg) : SlX.Slot1 K (He.ga K "Procedure") "held_ways" (He.ma K (He.ga K "Procedure") "held_ways") 4 := slotB_ok (T.own 7 (f := fun K => slotB K "Procedure" "held_ways" 4) rfl)
theorem sl_held_first (T : Tx K mg) : SlX.Slot1 K (He.ga K "Program") "held_first" (He.ma K (He.ga K "Program") "held_first") 0 := slotB_ok (T.own 8 (f := fun K => slotB K "Program" "held_first" 0) rfl)
theorem sl_held_procedures (T : Tx K mg) : SlX.Slot1 K (He.ga K "Program") "held_procedures" (He.ma K (He.ga K "Program") "held_procedures") 1 := slotB_ok (T.own 9 (f := fun K => slotB K "Program" "held_procedures" 1) rfl)
theorem i_Form (T : Tx K mg) : SlX.SIsi K (He.ga K "Form") ∧ PySem.W.kitOne K (.ref (He.ga K "Form")) (.ref (He.ga K "Form")) = some true := isiB_ok (T.own 10 (f := fun K => isiB K "Form") rfl)
theorem i_Procedure (T : Tx K mg) : SlX.SIsi K (He.ga K "Procedure") ∧ PySem.W.kitOne K (.ref (He.ga K "Procedure")) (.ref (He.ga K "Procedure")) = some true := isiB_ok (T.own 11 (f := fun K => isiB K "Procedure") rfl)
theorem i_Program (T : Tx K mg) : SlX.SIsi K (He.ga K "Program") ∧ PySem.W.kitOne K (.ref (He.ga K "Program")) (.ref (He.ga K "Program")) = some true := isiB_ok (T.own 12 (f := fun K => isiB K "Program") rfl)
theorem z_KINDS (T : Tx K mg) (H : Hp) : SqT K H (He.ga K "KINDS") [.str "plain", .str "high", .str "low"] := He.tupB_ok (T.own 0 (f := fun K => He.tupB K "KINDS" [.str "plain", .str "high", .str "low"]) rfl) H
theorem ne_Form (T : Tx K mg) : PySem.W.findIn K (.ref (He.ga K "Form")) "__ne__" = some (some (.builtin "object.__ne__")) := He.eqO_ok (T.own 17 (f := fun K => He.eqO (PySem.W.findIn K (.ref (He.ga K "Form")) "__ne__") (some (some (.builtin "object.__ne__")))) rfl)
theorem q_Form (T : Tx K mg) : PySem.W.noSeq K (He.ga K "Form") = true := T.own 18 (f := fun K => PySem.W.noSeq K (He.ga K "Form")) rfl
theorem q_Program (T : Tx K mg) : PySem.W.noSeq K (He.ga K "Program") = true := T.own 19 (f := fun K => PySem.W.noSeq K (He.ga K "Program")) rfl
end
end Fp

/-! ## FpHead -/
set_option Elab.async false
set_option linter.all false
set_option maxRecDepth 100000
set_option maxHeartbeats 0
namespace FpT
open PySem PySem.Spec PyProof.Rows L2
abbrev R : PySem.W.OpenRow := PySem.W.OpenLaw.row Fp.row
def names1 : List Str := [Str.ofString "_wall", Str.ofString "ApartError", Str.ofString "Wrong", Str.ofString "NoName", Str.ofString "BadKind", Str.ofString "NoPlace", Str.ofString "NoWay", Str.ofString "NoProc", Str.ofString "BadCall", Str.ofString "joined", Str.ofString "moved", Str.ofString "led_row", Str.ofString "kinds_of", Str.ofString "Form", Str.ofString "LETTERS", Str.ofString "LONGEST", Str.ofString "KINDS", Str.ofString "ZERO", Str.ofString "is_integer", Str.ofString "is_name", Str.ofString "is_source", Str.ofString "is_kind", Str.ofString "fits", Str.ofString "are_different", Str.ofString "are_names", Str.ofString "is_marked", Str.ofString "form_behind", Str.ofString "form_of_run", Str.ofString "form_at", Str.ofString "played", Str.ofString "is_part", Str.ofString "are_parts", Str.ofString "is_set_part"]
def names2 : List Str := [Str.ofString "is_set", Str.ofString "is_call", Str.ofString "is_statement", Str.ofString "frozen", Str.ofString "sets", Str.ofString "parts_of", Str.ofString "reads", Str.ofString "is_way", Str.ofString "are_kinds", Str.ofString "targets", Str.ofString "Procedure", Str.ofString "are_procedures", Str.ofString "calls", Str.ofString "is_fit", Str.ofString "Program", Str.ofString "_law_bag", Str.ofString "_law_take", Str.ofString "_law_mixed", Str.ofString "_law_names", Str.ofString "_law_number", Str.ofString "_law_kinds", Str.ofString "_law_part", Str.ofString "_law_statement", Str.ofString "_law_call", Str.ofString "_law_ways", Str.ofString "_law_model", Str.ofString "_law_procedure", Str.ofString "_law_program", Str.ofString "_law_drawn_start", Str.ofString "_law_gone_on"]
def names3 : List Str := [Str.ofString "_law_drawn_run", Str.ofString "_law_drawn_moment", Str.ofString "_law_head", Str.ofString "_law_run_form", Str.ofString "_law_stepped", Str.ofString "_law_steps_right", Str.ofString "_law_apart_right"]
def names : List Str := names1 ++ names2 ++ names3
abbrev hk : PySem.W.Hook := Fp.hookM 5 Fp.fns Fp.chk
def ob (s : PySem.W.SharedT) : He.AlD := Fp.obsMG 5 Fp.fns Fp.chk (HandSHeadRun.getT s)
theorem ob_eq (s : PySem.W.SharedT) : ob s = hk.obs s.abs := Fp.obsMG_eq (HandSHeadRun.getT_eq s)
theorem run (w : World) : HandSHeadRun.RunEq R (PySem.W.view R.prog [78]) hk ob 20000 names w := by
  intro os
  kernel_rfl
end FpT

/-! ## FpLib -/
set_option Elab.async false
set_option linter.all false
set_option maxRecDepth 100000
set_option maxHeartbeats 2000000
namespace Fp
open PySem PySem.Spec PyProof.Rows L2
/-! ### promises without exceptions -/
/-- a promise: arguments, heap, what is wanted -/
abbrev Sq := List V → Hp → VK → Prop
abbrev sp (S : Sq) : Sp := fun vs H Q _ => S vs H Q
/-- the context of a def's body -/
abbrev cx (P : Program) (w : World) (K : PySem.W.Frag) (mg : Str → Option Value) (base : Heap) (N : List Str) (qual : Str) (st : Stmt) (f : Addr) (cd : Value) (A : Around) (outer : List Env) (s : Shared) (H : Hp) (E : XK) : Cx :=
  (cxOf CX0 P w K mg base N qual (defScope st) f cd A outer s H E).nox
section
variable {P : Program} {w : World} {K : PySem.W.Frag} {mg : Str → Option Value} {base : Heap}
/-- the body of a def, to its promise -/
def BodyOk (P : Program) (w : World) (K : PySem.W.Frag) (mg : Str → Option Value) (base : Heap) (N : List Str) (qual : Str) (st : Stmt) (f : Addr) (k : Nat) (S : Sq) : Prop :=
  ∀ (cdv : Value) (A : Around) (outer : List Env) (s : Shared) (H : Hp) (vs : List V) (Q : VK) (E : XK), Room k (cx P w K mg base N qual st f cdv A outer s H E).A → S vs H Q →
      ∃ t, PSs (cx P w K mg base N qual st f cdv A outer s H E) (defBody st) t ∧ t { nx := fun _ H' => Q .non H', rt := Q } (start N vs) H
/-- a def of the text that keeps its promise, by positional values -/
theorem fr_of {x qual : Str} {st : Stmt} {f : Addr} {N ps : List Str} {k : Nat} {S : Sq} (F : ∃ fd, Fun K x qual st f fd) (sc : FnScope N ps (defScope st)) (len : ∀ vs H Q, S vs H Q → vs.length = ps.length)
    (hb : ∀ (kV doc pm : Value) (an : Option Addr) (cdv ct : Value) (us : List Value), us.length = ps.length → bindArgs (PySem.W.fnOf x qual (defArgs st) (defBody st) (defScope st) .none kV doc pm an cdv ct) ⟨us, []⟩ = pure (ps.zip us))
    (body : BodyOk P w K mg base N qual st f k S) : FnR P w K mg base CX0 (k + 1) f (sp S) := by
  obtain ⟨fd, F⟩ := F
  have G : FnOk P w K mg base CX0 (k + 1) f fd ps (sp S) := F.ok sc (fun vs H Q E h => len vs H Q h) fun cdv A outer s H vs Q E hr h => body cdv A outer s H vs Q E hr h
  have b : Binds K fd ps [] := F.binds hb
  have R := G.raw b (dvs := []) .nil
  exact R.imp fun vs H Q E h => by
    show S (vs ++ []) H Q
    rw [List.append_nil]
    exact h
/-- a def called by its name -/
structure Cal (P : Program) (w : World) (K : PySem.W.Frag) (mg : Str → Option Value) (base : Heap) (k : Nat) (x : Str) (S : Sq) : Prop where
  ex : ∃ f, FnR P w K mg base CX0 k f (sp S) ∧ mg x = some (.ref f) ∧ PySem.W.keepIn K (.ref f) = true
/-- a method of a class whose instances have a dict -/
structure CalF (P : Program) (w : World) (K : PySem.W.Frag) (mg : Str → Option Value) (base : Heap) (k : Nat) (C : Addr) (m : Str) (S : Sq) : Prop where
  ex : ∃ f, FnR P w K mg base CX0 k f (sp S) ∧ Meth K C m f ∧ Cls K C ∧ PySem.W.fnIn K f = true
/-- a method of a class with slots -/
structure CalS (P : Program) (w : World) (K : PySem.W.Frag) (mg : Str → Option Value) (base : Heap) (k : Nat) (C : Addr) (m : Str) (S : Sq) : Prop where
  ex : ∃ f, FnR P w K mg base CX0 k f (sp S) ∧ Meth K C m f ∧ SlX.SCls K C ∧ PySem.W.fnIn K f = true
/-- a property of a class with slots -/
structure CalP (P : Program) (w : World) (K : PySem.W.Frag) (mg : Str → Option Value) (base : Heap) (k : Nat) (C : Addr) (m : Str) (S : Sq) : Prop where
  ex : ∃ p g, FnR P w K mg base CX0 k g (sp S) ∧ PropF K C p g m ∧ SlX.SCls K C
/-- a static method -/
structure CalT (P : Program) (w : World) (K : PySem.W.Frag) (mg : Str → Option Value) (base : Heap) (k : Nat) (x : Str) (C : Addr) (m : Str) (S : Sq) : Prop where
  ex : ∃ p f, FnR P w K mg base CX0 k f (sp S) ∧ StatF K C p f m ∧ mg x = some (.ref C) ∧ PySem.W.keepIn K (.ref f) = true
/-- a class made by its name -/
structure Mak (P : Program) (w : World) (K : PySem.W.Frag) (mg : Str → Option Value) (base : Heap) (k : Nat) (x : Str) (C : Addr) (S : Sq) : Prop where
  ex : ∃ f, Mk K C f ∧ FnR P w K mg base CX0 k f (sp S) ∧ mg x = some (.ref C)
theorem Fun.kp' {x qual : Str} {st : Stmt} {f : Addr} (F : ∃ fd, Fun K x qual st f fd) : PySem.W.keepIn K (.ref f) = true := let ⟨_, F⟩ := F; F.kp
theorem Fun.fi' {x qual : Str} {st : Stmt} {f : Addr} (F : ∃ fd, Fun K x qual st f fd) : PySem.W.fnIn K f = true := by
  obtain ⟨fd, F⟩ := F
  obtain ⟨oc, od, kV, doc, pm, an, cdv, ct, osl, rfl, lk, hcd⟩ := F.ex
  unfold PySem.W.fnIn
  rw [lk]
theorem calF_of {x qual : Str} {st : Stmt} {f C : Addr} {m : Str} {k : Nat} {S : Sq} (F : ∃ fd, Fun K x qual st f fd) (g : Meth K C m f) (c : Cls K C) (R : FnR P w K mg base CX0 k f (sp S)) : CalF P w K mg base k C m S := ⟨f, R, g, c, Fun.fi' F⟩
theorem calS_of {x qual : Str} {st : Stmt} {f C : Addr} {m : Str} {k : Nat} {S : Sq} (F : ∃ fd, Fun K x qual st f fd) (g : Meth K C m f) (c : SlX.SCls K C) (R : FnR P w K mg base CX0 k f (sp S)) : CalS P w K mg base k C m S := ⟨f, R, g, c, Fun.fi' F⟩
theorem cal_of {x qual : Str} {st : Stmt} {f : Addr} {k : Nat} {S : Sq} (F : ∃ fd, Fun K x qual st f fd) (g : mg x = some (.ref f)) (R : FnR P w K mg base CX0 k f (sp S)) : Cal P w K mg base k x S := ⟨f, R, g, Fun.kp' F⟩
end
/-! ### calls -/
def tCl (S : Sq) (t : TA) : TE := fun σ H Q => t σ H fun vs H1 => S vs H1 Q
def tMk (C : Addr) (S : Sq) (t : TA) : TE := fun σ H Q => t σ H fun vs H1 => ∀ x dx, H1 x = none → H1 dx = none → dx ≠ x → S (.ref x :: vs) (upd (upd H1 dx (.own x)) x (.ins C dx [])) (fun v H2 => v = .non ∧ Q (.ref x) H2)
/-- o.m(..) of an instance with a dict -/
def tMd (C : Addr) (m : Str) (S : Sq) (ta : TE) (t : TA) : TE := fun σ H Q => ta σ H fun x H1 => ∃ a dx fs, x = .ref a ∧ H1 a = some (.ins C dx fs) ∧ fs.lookup m = none ∧ t σ H1 fun vs H2 => S (.ref a :: vs) H2 Q
/-- o.m(..) of an instance with slots -/
def tMs (C : Addr) (S : Sq) (ta : TE) (t : TA) : TE := fun σ H Q => ta σ H fun x H1 => ∃ a dx vs, x = .ref a ∧ SlX.Slt H1 a C dx vs ∧ t σ H1 fun ws H2 => S (x :: ws) H2 Q
def tPr (C : Addr) (S : Sq) (ta : TE) : TE := fun σ H Q => ta σ H fun x H1 => ∃ a dx vs, x = .ref a ∧ SlX.Slt H1 a C dx vs ∧ S [.ref a] H1 Q
def rGs (C : Addr) (S : Sq) : R2 := fun x y H Q => ∃ a dx vs, x = .ref a ∧ SlX.Slt H a C dx vs ∧ S [x, y] H Q
def rGf (C : Addr) (S : Sq) : R2 := fun x y H Q => ∃ a dx fs, x = .ref a ∧ H a = some (.ins C dx fs) ∧ S [x, y] H Q
section
variable {X : Cx} {k j : Nat} {x m : Str} {S : Sq} {p pos apos : Pos} {e o : Expr} {es : List Expr} {ta : TE} {t : TA} {C f g : Addr}
theorem pcall (c : Cal X.prog X.w X.K X.mg X.base k x S) (hr : Room j X.A) (hk : k ≤ j) (hg : Gl X x) (ha : PA X (e :: es) t)
    (hdb : (x == ("__debug__" : Str)) = false := by decide) (he : starEach (e :: es) X.env = (false, eval e X.env) :: starEach es X.env := by rfl) (hpl : (backTo pos (starEach es X.env)).any (·.1) = false := by rfl) :
    PE X (.Call (.Name x p) (e :: es) [] pos) (tCl S t) := by
  obtain ⟨f, F, hm, kp⟩ := c.ex
  refine ⟨fun pins s σ H Q I h => ?_⟩
  refine wpAny_Call_Name_kw (ld_glob I hg hm ?_ hdb)
  refine PySem.W.callWith_K (h₀ := X.base) I.ok.mod.kin kp (thn (ha.run pos pins s σ H _ I h) fun us s1 ⟨vs, H1, I1, r, q⟩ => ⟨I1.kIn, ?_⟩) he hpl
  exact wpAny_call (run_fnR (E := E0) F (hr.mono hk) pass0 I1 r q)
theorem pmake (c : Mak X.prog X.w X.K X.mg X.base k x C S) (hr : Room j X.A) (hk : k + 1 ≤ j) (hg : Gl X x) (ha : PA X (e :: es) t)
    (hdb : (x == ("__debug__" : Str)) = false := by decide) (he : starEach (e :: es) X.env = (false, eval e X.env) :: starEach es X.env := by rfl) (hpl : (backTo pos (starEach es X.env)).any (·.1) = false := by rfl) :
    PE X (.Call (.Name x p) (e :: es) [] pos) (tMk C S t) := by
  obtain ⟨f, M, F, hm⟩ := c.ex
  exact StX.pe_makeR (E := E0) M F (hr.mono hk) hg hm pass0 ha hdb he hpl
theorem pmeth {pl : Sem Bool} (c : CalF X.prog X.w X.K X.mg X.base k C m S) (hr : Room j X.A) (hk : k ≤ j) (he : PE X o ta) (ha : PA X (e :: es) t)
    (hst : starEach (e :: es) X.env = (false, eval e X.env) :: starEach es X.env := by rfl) (hpl : (backTo pos (starEach es X.env)).any (·.1) = false := by rfl)
    (ht : eval (.Call (.Attribute o m apos) (e :: es) [] pos) X.env = (do
      let ov ← eval o X.env
      standAt apos.atName
      let (f, first) ← holding [ov] (getMethod ov m pl)
      callWith pos f first (backTo pos (starEach (e :: es) X.env)) (backToKw pos (keywordEach [] X.env))) := by rfl) :
    PE X (.Call (.Attribute o m apos) (e :: es) [] pos) (tMd C m S ta t) := by
  obtain ⟨f, F, hm, hc, hfi⟩ := c.ex
  refine ⟨fun pins s σ H Q I h => ?_⟩
  refine PySem.W.methodCall_KW (pl := pl) (thn (he.run pins s σ H _ I h) fun u s1 ⟨x, H1, I1, rx, a, dx, fs, ex, ea, l, q⟩ => ?_) ht
  subst ex
  obtain rfl : u = Value.ref a := rx
  refine getmeth_ok I1 ea hc hm l ?_
  refine PySem.W.callWith_K (first := [.ref a]) (h₀ := X.base) I.ok.mod.kin hm.kp (thn (ha.run pos pins s1 σ H1 _ I1 q) fun us s2 ⟨vs, H2, I2, r, q2⟩ => ⟨I2.kIn, ?_⟩) hst hpl
  exact wpAny_call (run_fnR (E := E0) (us := .ref a :: us) (vs := .ref a :: vs) F (hr.mono hk) pass0 I2 (.cons rfl r) q2)
theorem pmeth0 {pl : Sem Bool} (c : CalF X.prog X.w X.K X.mg X.base k C m S) (hr : Room j X.A) (hk : k ≤ j) (he : PE X o ta)
    (ht : eval (.Call (.Attribute o m apos) [] [] pos) X.env = (do
      let ov ← eval o X.env
      standAt apos.atName
      let (f, first) ← holding [ov] (getMethod ov m pl)
      callWith pos f first (backTo pos (starEach [] X.env)) (backToKw pos (keywordEach [] X.env))) := by rfl) :
    PE X (.Call (.Attribute o m apos) [] [] pos) (tMd C m S ta tNil) := by
  obtain ⟨f, F, hm, hc, hfi⟩ := c.ex
  refine ⟨fun pins s σ H Q I h => ?_⟩
  refine PySem.W.methodCall_KW (pl := pl) (thn (he.run pins s σ H _ I h) fun u s1 ⟨x, H1, I1, rx, a, dx, fs, ex, ea, l, q⟩ => ?_) ht
  subst ex
  obtain rfl : u = Value.ref a := rx
  refine getmeth_ok I1 ea hc hm l ?_
  exact PySem.W.callWith_K0 (first := [.ref a]) I1.kIn hm.kp (wpAny_call (run_fnR (E := E0) (us := [.ref a]) (vs := [.ref a]) F (hr.mono hk) pass0 I1 (.cons rfl .nil) q))
theorem pmethS {pl : Sem Bool} (c : CalS X.prog X.w X.K X.mg X.base k C m S) (hr : Room j X.A) (hk : k ≤ j) (he : PE X o ta) (ha : PA X (e :: es) t)
    (hst : starEach (e :: es) X.env = (false, eval e X.env) :: starEach es X.env := by rfl) (hpl : (backTo pos (starEach es X.env)).any (·.1) = false := by rfl)
    (ht : eval (.Call (.Attribute o m apos) (e :: es) [] pos) X.env = (do
      let ov ← eval o X.env
      standAt apos.atName
      let (f, first) ← holding [ov] (getMethod ov m pl)
      callWith pos f first (backTo pos (starEach (e :: es) X.env)) (backToKw pos (keywordEach [] X.env))) := by rfl) :
    PE X (.Call (.Attribute o m apos) (e :: es) [] pos) (tMs C S ta t) := by
  obtain ⟨f, F, hm, hc, hfi⟩ := c.ex
  exact SlX.pe_methSl (E := E0) (pl := pl) he hc hm F (hr.mono hk) pass0 ha hst hpl ht
theorem pmethS0 {pl : Sem Bool} (c : CalS X.prog X.w X.K X.mg X.base k C m S) (hr : Room j X.A) (hk : k ≤ j) (he : PE X o ta)
    (ht : eval (.Call (.Attribute o m apos) [] [] pos) X.env = (do
      let ov ← eval o X.env
      standAt apos.atName
      let (f, first) ← holding [ov] (getMethod ov m pl)
      callWith pos f first (backTo pos (starEach [] X.env)) (backToKw pos (keywordEach [] X.env))) := by rfl) :
    PE X (.Call (.Attribute o m apos) [] [] pos) (tMs C S ta tNil) := by
  obtain ⟨f, F, hm, hc, hfi⟩ := c.ex
  exact SlX.pe_methSl0 (E := E0) (pl := pl) he hc hm F (hr.mono hk) pass0 ht
/-- C.m(..), m a static method -/
theorem pstat {y : Str} {yp : Pos} {pl : Sem Bool} (c : CalT X.prog X.w X.K X.mg X.base k y C m S) (hr : Room j X.A) (hk : k ≤ j) (hg : Gl X y) (ha : PA X (e :: es) t)
    (hdb : (y == ("__debug__" : Str)) = false := by decide)
    (hst : starEach (e :: es) X.env = (false, eval e X.env) :: starEach es X.env := by rfl) (hpl : (backTo pos (starEach es X.env)).any (·.1) = false := by rfl)
    (ht : eval (.Call (.Attribute (.Name y yp) m apos) (e :: es) [] pos) X.env = (do
      let ov ← eval (.Name y yp) X.env
      standAt apos.atName
      let (f, first) ← holding [ov] (getMethod ov m pl)
      callWith pos f first (backTo pos (starEach (e :: es) X.env)) (backToKw pos (keywordEach [] X.env))) := by rfl) :
    PE X (.Call (.Attribute (.Name y yp) m apos) (e :: es) [] pos) (tCl S t) := by
  obtain ⟨p, f, F, hs, hm, kp⟩ := c.ex
  obtain ⟨rest, hrc⟩ := hs.rc
  refine ⟨fun pins s σ H Q I h => ?_⟩
  have he : PE X (.Name y yp) (tC (.ref C)) := pe_glob hg hm rfl hdb
  refine PySem.W.methodCall_KW (pl := pl) (thn (he.run pins s σ H (fun v H' => v = .ref C ∧ H' = H) I ⟨rfl, rfl⟩) fun u s1 ⟨x, H1, I1, rx, ex, eH⟩ => ?_) ht
  subst ex
  subst eH
  obtain rfl : u = Value.ref C := rx
  refine PySem.W.method_cls I1.kIn hs.ga ?_
  refine PySem.W.cls_bind I1.kIn hs.rd hs.at_ (wpAny_call ?_)
  have I2 : Inv X pins σ H1 { s1 with toks := s1.toks + 1 } := I1.tok _
  refine PySem.W.sm_get (s := { s1 with toks := s1.toks + 1 }) I2.kIn hrc ?_
  refine PySem.W.handed_on rfl ?_
  refine PySem.W.callWith_K (first := []) (h₀ := X.base) I.ok.mod.kin kp (thn (ha.run pos pins _ σ H1 _ I2 h) fun us s2 ⟨vs, H2, I3, r, q2⟩ => ⟨I3.kIn, ?_⟩) hst hpl
  exact wpAny_call (run_fnR (E := E0) (us := us) (vs := vs) F (hr.mono hk) pass0 I3 r q2)
/-- x[y] by an own __getitem__, x an instance with slots -/
theorem pgetG {a b : Expr} {tb : TE} (c : CalS X.prog X.w X.K X.mg X.base k C "__getitem__" S) (hr : Room j X.A) (hk : k + 1 ≤ j) (ha : PE X a ta) (hb : PE X b tb)
    (hsl : ∀ v u, subscripted b true v u = runValue (.builtin "lifetime.subscript" ⟨[v, u], []⟩) := by intro _ _; with_unfolding_all rfl) : PE X (.Subscript a b pos) (tOp (rGs C S) ta tb) := by
  obtain ⟨f, F, hm, hc, hfi⟩ := c.ex
  refine ⟨fun pins s σ H Q I h => ?_⟩
  refine Subscript_ (binT ha hb I h fun v u s2 x y H2 I2 rx ry q => ?_)
  obtain ⟨a', dx, vs, ex, hs, q⟩ := q
  subst ex
  obtain rfl : v = Value.ref a' := rx
  obtain ⟨sl, od, _, J, _⟩ := SlX.slt_inst I2 hs
  obtain ⟨m', hF⟩ := I2.fr
  refine PySem.W.sub_K hF I2.ok.mod.kin J hm.at_ hfi hm.fn ?_ (hsl _ _)
  exact wpAny_call (SlX.run_at (E := E0) (us := [.ref a', u]) (ws := [.ref a', y]) F (show Room k X.A.in1 from (hr.mono hk).in1) I2.env0.in1 pass0 I2 (.cons rfl (.cons ry .nil)) q)
/-- the same, x an instance with a dict -/
theorem pgetF {a b : Expr} {tb : TE} (c : CalF X.prog X.w X.K X.mg X.base k C "__getitem__" S) (hr : Room j X.A) (hk : k + 1 ≤ j) (ha : PE X a ta) (hb : PE X b tb)
    (hsl : ∀ v u, subscripted b true v u = runValue (.builtin "lifetime.subscript" ⟨[v, u], []⟩) := by intro _ _; with_unfolding_all rfl) : PE X (.Subscript a b pos) (tOp (rGf C S) ta tb) := by
  obtain ⟨f, F, hm, hc, hfi⟩ := c.ex
  refine ⟨fun pins s σ H Q I h => ?_⟩
  refine Subscript_ (binT ha hb I h fun v u s2 x y H2 I2 rx ry q => ?_)
  obtain ⟨a', dx, fs, ex, hs, q⟩ := q
  subst ex
  obtain rfl : v = Value.ref a' := rx
  obtain ⟨mA, O, _⟩ := ins_get I2.hok hs
  obtain ⟨od, J, _⟩ := O.look
  obtain ⟨m', hF⟩ := I2.fr
  refine PySem.W.sub_K hF I2.ok.mod.kin J hm.at_ hfi hm.fn ?_ (hsl _ _)
  exact wpAny_call (SlX.run_at (E := E0) (us := [.ref a', u]) (ws := [.ref a', y]) F (show Room k X.A.in1 from (hr.mono hk).in1) I2.env0.in1 pass0 I2 (.cons rfl (.cons ry .nil)) q)
theorem pprop (c : CalP X.prog X.w X.K X.mg X.base k C m S) (hr : Room j X.A) (hk : k + 1 ≤ j) (he : PE X e ta) (hb : attributeBase e m X.env (eval e X.env) = eval e X.env := by rfl) :
    PE X (.Attribute e m pos) (tPr C S ta) := by
  obtain ⟨p, g, F, hp, hc⟩ := c.ex
  exact SlX.pe_propSl (E := E0) he hc hp.at_ hp.get hp.tk hp.rc F (hr.mono hk) (fun _ _ _ _ z => z) hb
end
/-! ### what is made is put to rest -/
def tFz (t : TE) : TE := fun σ H Q => t σ H fun v H1 => ∃ d u, v = .ref d ∧ H1 d = some u ∧ Mut (some u) ∧ ∀ od, Q v (upd H1 d (.frz od u))
section
variable {X : Cx} {pos pos' : Pos} {e o : Expr} {ta : TE}
theorem pe_fz (h : PE X e ta) : PE X e (tFz ta) := ⟨fun pins s σ H Q I hw => thn (h.run pins s σ H _ I hw) fun v s1 ⟨x, H1, I1, r, d, u, e, hd, mu, q⟩ => by
  obtain ⟨od, I2⟩ := I1.lock hd mu
  exact ⟨x, _, I2, r, q od⟩⟩
/-- .. o.f = .. as a target -/
def gSlX (K : PySem.W.Frag) (ta : TE) (f : Str) : TG := fun y σ H Q => ta σ H fun x H2 => ∃ a C dx p vs i, x = .ref a ∧ SlX.Slt H2 a C dx vs ∧ SlX.SCls K C ∧ SlX.Slot1 K C f p i ∧ Q σ (SlX.slH H2 a C dx (SlX.putS i y vs))
theorem pg_slX {f : Str} (ha : PE X o ta) (hs : ∀ v, assign (.Attribute o f pos) X.env v = (do
      let ov ← holding [v] (eval o X.env)
      standAt pos
      holding [v, ov] (setAttr ov f v)
      release [v, ov] []) := by intro _; rfl) : PG X (.Attribute o f pos) (gSlX X.K ta f) := by
  refine ⟨fun pins s σ H v u Q I r h => ?_⟩
  rw [hs]
  refine wpAny_bind (wpAny_holding (thn (ha.run pins s σ H _ I h) fun ov s1 ⟨x, H1, I1, rx, a, C, dx, p, vs, i, ex, hsl, c, t, q⟩ => ?_))
  subst ex
  obtain rfl : ov = Value.ref a := rx
  refine wpAny_bind (wpAny_standAt (wpAny_bind (wpAny_holding (SlX.setslot_ok I1 hsl c t r fun s2 I2 => ?_))))
  exact wpAny_release ⟨σ, _, I2, q⟩
/-- len(d) -/
theorem call_lenDR : CallR X (.builtin "len") (fun xs H Q => ∃ a kvs, xs = [V.ref a] ∧ Rd H a (.dK kvs) ∧ Q (.int kvs.length) H) := by
  intro pins s σ H xs us Q I r h
  obtain ⟨a, kvs, rfl, rd, q⟩ := h
  obtain ⟨u, rfl, ru⟩ := vals1 r
  cases ru
  exact d_len I rd fun t s' I' => ⟨.int kvs.length, H, I', ⟨t, rfl⟩, q⟩
/-- xs[i] of a list, ahead of a store there -/
def rGetL (K : PySem.W.Frag) : V → V → Hp → VK → Prop := fun o i H Q => ∃ p xs k v, o = .ref p ∧ i = .int k ∧ SqL K H p xs ∧ 0 ≤ k ∧ k < 2 ^ 63 ∧ xs[k.toNat]? = some v ∧ Q v H
theorem get_list : PGet X (rGetL X.K) := by
  intro pins s σ H o i ov iv Q I ro ri h
  obtain ⟨p, xs, k, v, rfl, rfl, hp, h0, h1, hv, q⟩ := h
  cases ro
  obtain ⟨t, rfl⟩ := ri
  obtain ⟨its, r, pl, hz⟩ := I.list hp
  obtain ⟨w, ew, rw'⟩ := r.get hv
  exact wpAny_getItem_list pl.isList h0 h1 (by simpa using ew) ⟨v, H, I, rw', q⟩
end
/-! ### y = {k: v for ..} -/
section
variable {X : Cx}
theorem ps_setDc {i : Nat} {y : Str} {py : Pos} {kx vx tg iter : Expr} {ifs : List Expr} {scope : Scope} {own : List (Str × Nat)} {pos spos : Pos} {wi : TI} {g : TG} {tt : TT} {tk tv : TE} (hc : X.calm = true) (hN : X.N.Nodup) (hy : X.N[i]? = some y) (hyl : X.env.scope.names.lookup y = some .local)
    (hsw : swapsWith (.DictComp kx vx [⟨tg, iter, ifs, 0⟩] scope pos) (some (.Name y py)) spos.line X.env = pure true) (hi : PI X tg iter wi) (ok : BlkOk X.N X.env.scope scope own)
    (hg : ∀ (s : Shared) (H : Hp) (C : Addr) (cl : List (Str × Addr)) (fp : List Addr), PG (X.blk s H scope (compEnvC scope cl C X.env) fp) tg g) (ht : ∀ (s : Shared) (H : Hp) (C : Addr) (cl : List (Str × Addr)) (fp : List Addr), PTs (X.blk s H scope (compEnvC scope cl C X.env) fp) ifs tt)
    (hk : ∀ (s : Shared) (H : Hp) (C : Addr) (cl : List (Str × Addr)) (fp : List Addr), PE (X.blk s H scope (compEnvC scope cl C X.env) fp) kx tk)
    (he : ∀ (s : Shared) (H : Hp) (C : Addr) (cl : List (Str × Addr)) (fp : List Addr), PE (X.blk s H scope (compEnvC scope cl C X.env) fp) vx tv) (hs : ∀ x, foldedSetIterable iter X.env x = pure x := by intro _; rfl) :
    PS X (.Assign [.Name y py] (.DictComp kx vx [⟨tg, iter, ifs, 0⟩] scope pos) spos) (tAsg (tDc wi g tt tk tv (own.map (·.2))) (gName i)) := by
  refine ⟨fun pins s σ H D I h => ?_⟩
  rw [exec_Assign_Name_used _ _ _ _ hsw]
  refine wpAny_bind (wpAny_standAt (wpAny_bind ?_))
  show wpAny _ X.A (do let _ ← comprehension (.DictComp kx vx [⟨tg, iter, ifs, 0⟩] scope pos) scope X.env (firstIterPos [⟨tg, iter, ifs, 0⟩] pos) newDict false (eval iter X.env) (some (assign (.Name y py) X.env))) _ _ s
  have h : tDc wi g tt tk tv (own.map (·.2)) σ H (fun x H1 => gName i x σ H1 D.nx) := h
  refine wpAny_bind (thn (dc_core (Qf := fun _ s' => SP X pins D .next s') hc hN I hi ok hg ht hk he hs h fun L C s' m H' I' q hn f => ?_) fun _ s' hq => wpAny_pure (wpAny_pure hq))
  show wpAny _ _ (assign (.Name y py) X.env (.ref L)) _ _ _
  refine wpAny_assign_Name (store_ok2 (v := V.ref L) I' hN hy (.inl hyl) rfl (fun s2 I2 ⟨a, sb, ha⟩ => ?_) (.inr hyl))
  obtain ⟨f0, f1, f2, f3, f4, f5⟩ := f
  have haC : C ≠ a := by
    rcases ha with z | z
    · rw [z]; exact f1
    · exact fun e => f4 y a z e.symm
  refine ⟨m, hn.sameBut sb haC, fun h3 sb3 => ?_⟩
  exact ⟨_, H', I2.turned (t' := s2.toks) (fun b o hb e => (sb3.2 b hb).trans e) f0 f1 f3 f4 f5, q⟩
theorem sw_trueD {kx vx : Expr} {gs : List Comprehension} {scope : Scope} {pos py : Pos} {y : Str} {l : Nat} {env : Env} (hk : env.scope.kind = .function) (hy : env.scope.names.lookup y = some .local) (hl : (py.line == pos.line) = true)
    (ha : (scope.names.any fun (n, k) => n == y && (k == .local || k == .cell)) = false) : swapsWith (.DictComp kx vx gs scope pos) (some (.Name y py)) l env = pure true := by
  have ky : env.kindOf y = some .local := hy
  have hb : env.blockKind = .function := by unfold Env.blockKind; rw [hk]; rfl
  unfold swapsWith
  simp only [hb, ky, ha, Expr.pos, hl]
  rfl
end
/-! ### what is walked is a list or a tuple -/
section
variable {X : Cx}
def iAny (K : PySem.W.Frag) (tl : TE) : TI := fun σ H R => iList K tl σ H R ∨ iTup K tl σ H R
theorem pi_any {tg l : Expr} {tl : TE} (hl : PE X l tl) : PI X tg l (iAny X.K tl) :=
  ⟨fun pins s σ H R I h => h.elim (fun q => (pi_list hl).run pins s σ H R I q) fun q => (pi_tup hl).run pins s σ H R I q⟩
end
/-! ### the rules, K said (within comprehensions) -/
section
variable {X : Cx} {K : PySem.W.Frag} {e : Expr} {f : Str} {pos : Pos} {ta : TE} {tg l : Expr}
theorem ixT (K : PySem.W.Frag) (h : X.K = K) : IxR X (rIxT K) := h ▸ ix_tup
theorem ixL (K : PySem.W.Frag) (h : X.K = K) : IxR X (rIxL K) := h ▸ ix_list
theorem slT (K : PySem.W.Frag) (h : X.K = K) : SlR X (rSlA K) := h ▸ sl_tupA
theorem slL (K : PySem.W.Frag) (h : X.K = K) : SlR X (rSlL K) := h ▸ sl_list
theorem inSq (K : PySem.W.Frag) (h : X.K = K) : OpR X (compareOp .In) (rIn K false) := h ▸ op_in_seq
theorem ninSq (K : PySem.W.Frag) (h : X.K = K) : OpR X (compareOp .NotIn) (rIn K true) := h ▸ op_notIn_seq
theorem catA (K : PySem.W.Frag) (h : X.K = K) : OpR X (binaryOp .Add) (rCatA K) := h ▸ op_catA
theorem eqD (K : PySem.W.Frag) (h : X.K = K) (hu : X.A.units + 64 < cLine) : OpR X (compareOp .Eq) (rEqD K) := h ▸ op_eqD hu
theorem neD (K : PySem.W.Frag) (h : X.K = K) (hu : X.A.units + 64 < cLine) : OpR X (compareOp .NotEq) (rNeD K) := h ▸ op_neD hu
theorem cIsi (K : PySem.W.Frag) (h : X.K = K) : CallR X (.builtin "isinstance") (rIsi K) := h ▸ call_isi
theorem cIsiT (K : PySem.W.Frag) (h : X.K = K) : CallR X (.builtin "isinstance") (rIsiT K) := h ▸ call_isiT
def rIsP (K : PySem.W.Frag) (C : Addr) : List V → Hp → VK → Prop := fun xs H Q => ∃ (a dx : Addr) (vs : List (Option V)), xs = [V.ref a, .ref C] ∧ SlX.Slt H a C dx vs ∧ SlX.SCls K C ∧ SlX.SIsi K C ∧ PySem.W.kitOne K (.ref C) (.ref C) = some true ∧ Q (.bl true) H
theorem cIsP (K : PySem.W.Frag) (h : X.K = K) (C : Addr) : CallR X (.builtin "isinstance") (rIsP K C) := fun pins s σ H xs us Q I r ⟨a, dx, vs, e, q1, q2, q3, q4, q5⟩ =>
  SlX.call_isiSl (X := X) (.ref C) pins s σ H xs us Q I r ⟨a, C, dx, vs, .ref C, true, e, rfl, fun _ z => z, q1, by rw [h]; exact q2, by rw [h]; exact q3, by rw [h]; exact q4, q5⟩
def rLen (K : PySem.W.Frag) : List V → Hp → VK → Prop := fun xs H Q => ∃ x n, xs = [x] ∧ LenV K x H n ∧ Q (.int n) H
theorem cLen (K : PySem.W.Frag) (h : X.K = K) : CallR X (.builtin "len") (rLen K) := by subst h; exact call_len
theorem cAll (K : PySem.W.Frag) (h : X.K = K) (hc : X.calm = true) : CallR X (.builtin "all") (rAll K) := by subst h; exact cr_all hc
theorem cMax (K : PySem.W.Frag) (h : X.K = K) (hc : X.calm = true) : CallR X (.builtin "max") (rMax K) := by subst h; exact cr_max hc
theorem cMin (K : PySem.W.Frag) (h : X.K = K) (hc : X.calm = true) : CallR X (.builtin "min") (rMin K) := by subst h; exact cr_min hc
theorem cSortS (K : PySem.W.Frag) (h : X.K = K) : CallR X (.builtin "sorted") (rSortedS K) := by subst h; exact cr_sortedS
def rTupOf (K : PySem.W.Frag) : List V → Hp → VK → Prop := fun xs H Q => ∃ p ys, xs = [.ref p] ∧ ((SqL K H p ys ∧ ∀ l, H l = none → Q (.ref l) (upd H l (.tup ys))) ∨ (SqT K H p ys ∧ Q (.ref p) H))
theorem cTup (K : PySem.W.Frag) (h : X.K = K) : CallR X (.type "tuple") (rTupOf K) := by subst h; exact call_tuple_of
def rLstOf (K : PySem.W.Frag) : List V → Hp → VK → Prop := fun xs H Q => ∃ p ys, xs = [.ref p] ∧ (SqL K H p ys ∨ SqT K H p ys) ∧ ∀ l, H l = none → Q (.ref l) (upd H l (.lst ys))
theorem cLst (K : PySem.W.Frag) (h : X.K = K) : CallR X (.type "list") (rLstOf K) := by subst h; exact call_list_of
theorem peFld (K : PySem.W.Frag) (h : X.K = K) (he : PE X e ta) (hb : attributeBase e f X.env (eval e X.env) = eval e X.env := by rfl) : PE X (.Attribute e f pos) (tFld K ta f) := by subst h; exact pe_fld he hb
theorem peSl (K : PySem.W.Frag) (h : X.K = K) (he : PE X e ta) (hb : attributeBase e f X.env (eval e X.env) = eval e X.env := by rfl) : PE X (.Attribute e f pos) (SlX.tSl K ta f) := by subst h; exact SlX.pe_sl he hb
theorem piList (K : PySem.W.Frag) (h : X.K = K) (hl : PE X l ta) : PI X tg l (iList K ta) := by subst h; exact pi_list hl
theorem piTup (K : PySem.W.Frag) (h : X.K = K) (hl : PE X l ta) : PI X tg l (iTup K ta) := by subst h; exact pi_tup hl
theorem piAny (K : PySem.W.Frag) (h : X.K = K) (hl : PE X l ta) : PI X tg l (iAny K ta) := by subst h; exact pi_any hl
theorem pgTup (K : PySem.W.Frag) (h : X.K = K) {es : List Expr} {k : Nat} {t : TGs} {n : Nat} (hc : X.calm = true) (hg : PGs X es t)
    (hn : (assignEach es X.env).length = n := by rfl) (hst : (assignEach es X.env).findIdx? (·.1) = none := by rfl) : PG X (.Tuple es k pos) (gTup K n t) := by subst h; exact pg_tup hc hg hn hst
end
end Fp

/-! ## FpData -/
set_option Elab.async false
set_option linter.all false
set_option maxRecDepth 100000
namespace Fp
open PySem PySem.Spec PyProof.Rows
/-! ### association lists -/
section
variable {α : Type}
def lk : List (Str × α) → Str → Option α
  | [], _ => none
  | p :: r, k => if p.1 = k then some p.2 else lk r k
def keys (l : List (Str × α)) : List Str := l.map (·.1)
def put (l : List (Str × α)) (k : Str) (v : α) : List (Str × α) := if (lk l k).isSome = true then l.map (fun p => if p.1 = k then (p.1, v) else p) else l ++ [(k, v)]
def mkD (l : List (Str × α)) : List (Str × α) := l.foldl (fun d p => put d p.1 p.2) []
theorem lk_mem {l : List (Str × α)} {k : Str} {v : α} : lk l k = some v → (k, v) ∈ l := by
  induction l with
  | nil => intro h; cases h
  | cons p r ih =>
    intro h
    unfold lk at h
    split at h
    · rename_i e
      cases h
      rw [← e]
      exact List.mem_cons_self
    · exact List.mem_cons_of_mem _ (ih h)
theorem lk_none {l : List (Str × α)} {k : Str} : lk l k = none ↔ k ∉ keys l := by
  induction l with
  | nil => simp [lk, keys]
  | cons p r ih =>
    unfold lk keys
    by_cases e : p.1 = k
    · simp [e]
    · rw [if_neg e, List.map_cons, List.mem_cons]
      rw [show (lk r k = none ↔ k ∉ r.map (·.1)) from ih]
      constructor
      · rintro h (q | q)
        · exact e q.symm
        · exact h q
      · exact fun h q => h (.inr q)
theorem lk_some {l : List (Str × α)} {k : Str} (h : k ∈ keys l) : ∃ v, lk l k = some v := by
  cases q : lk l k with
  | none => exact absurd h (lk_none.mp q)
  | some v => exact ⟨v, rfl⟩
theorem lk_key {l : List (Str × α)} {k : Str} {v : α} (h : lk l k = some v) : k ∈ keys l := List.mem_map.mpr ⟨_, lk_mem h, rfl⟩
theorem lk_of_mem {l : List (Str × α)} {k : Str} {v : α} : (keys l).Nodup → (k, v) ∈ l → lk l k = some v := by
  induction l with
  | nil => intro _ h; cases h
  | cons p r ih =>
    intro hn h
    have hn' : (p.1 :: keys r).Nodup := hn
    obtain ⟨h1, h2⟩ := List.nodup_cons.mp hn'
    unfold lk
    rcases List.mem_cons.mp h with e | h
    · rw [← e]; simp
    · have : p.1 ≠ k := fun e => h1 (by rw [e]; exact List.mem_map.mpr ⟨_, h, rfl⟩)
      rw [if_neg this]
      exact ih h2 h
theorem lk_append {l m : List (Str × α)} {k : Str} : lk (l ++ m) k = (lk l k).or (lk m k) := by
  induction l with
  | nil => simp [lk]
  | cons p r ih =>
    show (if p.1 = k then some p.2 else lk (r ++ m) k) = Option.or (if p.1 = k then some p.2 else lk r k) (lk m k)
    split
    · rfl
    · exact ih
theorem lk_mapput {l : List (Str × α)} {k j : Str} {v : α} : lk (l.map fun p => if p.1 = k then (p.1, v) else p) j = if j = k then (lk l j).map (fun _ => v) else lk l j := by
  induction l with
  | nil => simp [lk]
  | cons p r ih =>
    rw [List.map_cons]
    unfold lk
    rw [ih]
    by_cases e : p.1 = k
    · rw [if_pos e]
      by_cases ej : j = k
      · simp [ej, e]
      · have : ¬ p.1 = j := fun z => ej (z.symm.trans e)
        simp [ej, this]
    · rw [if_neg e]
      by_cases ej : j = k
      · have : ¬ p.1 = j := fun z => e (z.trans ej)
        simp only [ej, if_true] at this ⊢
        simp [e]
      · simp [ej]
theorem lk_put {l : List (Str × α)} {k j : Str} {v : α} : lk (put l k v) j = if j = k then some v else lk l j := by
  unfold put
  split
  · rename_i h
    rw [lk_mapput]
    by_cases ej : j = k
    · subst ej
      obtain ⟨w, hw⟩ := Option.isSome_iff_exists.mp h
      simp [hw]
    · simp [ej]
  · rename_i h
    have h' : lk l k = none := by
      cases q : lk l k with
      | none => rfl
      | some v => rw [q] at h; simp at h
    rw [lk_append]
    by_cases ej : j = k
    · subst ej
      rw [h']
      simp [lk]
    · have e2 : ¬ k = j := fun z => ej z.symm
      simp [lk, ej, e2]
theorem keys_put_in {l : List (Str × α)} {k : Str} {v : α} (h : k ∈ keys l) : keys (put l k v) = keys l := by
  obtain ⟨w, hw⟩ := lk_some h
  unfold put keys
  rw [hw]
  simp only [Option.isSome_some, if_true, List.map_map]
  apply List.map_congr_left
  intro p _
  show (if p.1 = k then (p.1, v) else p).1 = p.1
  split <;> rfl
theorem keys_put_out {l : List (Str × α)} {k : Str} {v : α} (h : k ∉ keys l) : put l k v = l ++ [(k, v)] := by
  unfold put
  rw [lk_none.mpr h]
  simp
theorem mem_keys_put {l : List (Str × α)} {k j : Str} {v : α} : j ∈ keys (put l k v) ↔ j = k ∨ j ∈ keys l := by
  by_cases h : k ∈ keys l
  · rw [keys_put_in h]
    constructor
    · exact .inr
    · rintro (e | e)
      · rw [e]; exact h
      · exact e
  · rw [keys_put_out h]
    unfold keys
    rw [List.map_append, List.mem_append]
    simp
    exact or_comm
theorem nd_put {l : List (Str × α)} {k : Str} {v : α} (h : (keys l).Nodup) : (keys (put l k v)).Nodup := by
  by_cases hk : k ∈ keys l
  · rw [keys_put_in hk]; exact h
  · rw [keys_put_out hk]
    unfold keys
    rw [List.map_append]
    refine List.nodup_append.mpr ⟨h, by simp, ?_⟩
    intro a ha b hb
    have : b = k := by simpa using hb
    rw [this]
    exact fun e => hk (e ▸ ha)
theorem put_mem {l : List (Str × α)} {k : Str} {v : α} {p : Str × α} (h : p ∈ put l k v) : p = (k, v) ∨ p ∈ l := by
  unfold put at h
  split at h
  · obtain ⟨q, hq, e⟩ := List.mem_map.mp h
    by_cases e2 : q.1 = k
    · rw [if_pos e2] at e
      rw [← e, e2]
      exact .inl rfl
    · rw [if_neg e2] at e
      rw [← e]
      exact .inr hq
  · rcases List.mem_append.mp h with h | h
    · exact .inr h
    · exact .inl (by simpa using h)
theorem put_len {l : List (Str × α)} {k : Str} {v : α} : (put l k v).length ≤ l.length + 1 := by
  unfold put
  split
  · simp
  · simp
end
/-- a list without repetition, within another -/
theorem nodup_le {α : Type} [DecidableEq α] : ∀ {l m : List α}, l.Nodup → (∀ x ∈ l, x ∈ m) → l.length ≤ m.length
  | [], _, _, _ => Nat.zero_le _
  | a :: r, m, h, hm => by
    obtain ⟨h1, h2⟩ := List.nodup_cons.mp h
    have hr : r.length ≤ (m.erase a).length := nodup_le h2 fun x hx => by
      have : x ≠ a := fun e => h1 (e ▸ hx)
      exact (List.mem_erase_of_ne this).mpr (hm x (List.mem_cons_of_mem _ hx))
    have hp : 0 < m.length := List.length_pos_of_mem (hm a List.mem_cons_self)
    rw [List.length_erase_of_mem (hm a List.mem_cons_self)] at hr
    rw [List.length_cons]
    omega
/-! ### sorting of texts -/
def ltS (a b : Str) : Bool := ltCps a.cps.toList b.cps.toList
theorem ltCps_irr : ∀ a : List Nat, ltCps a a = false
  | [] => rfl
  | a :: r => by simp [ltCps, ltCps_irr r]
theorem ltCps_anti : ∀ {a b : List Nat}, ltCps a b = false → ltCps b a = false → a = b
  | [], [], _, _ => rfl
  | [], _ :: _, h, _ => by simp [ltCps] at h
  | _ :: _, [], _, h => by simp [ltCps] at h
  | a :: r, b :: t, h1, h2 => by
    simp only [ltCps, Bool.or_eq_false_iff, decide_eq_false_iff_not, Bool.and_eq_false_iff, beq_eq_false_iff_ne] at h1 h2
    have e : a = b := by omega
    subst e
    have h3 : ltCps r t = false := by
      rcases h1.2 with z | z
      · exact absurd rfl z
      · exact z
    have h4 : ltCps t r = false := by
      rcases h2.2 with z | z
      · exact absurd rfl z
      · exact z
    rw [ltCps_anti h3 h4]
theorem ltCps_trans : ∀ {a b c : List Nat}, ltCps b a = false → ltCps c b = false → ltCps c a = false
  | a, b, [], h1, h2 => by
    cases a with
    | nil => rfl
    | cons x r =>
      cases b with
      | nil => simp [ltCps] at h1
      | cons y t => simp [ltCps] at h2
  | [], b, c :: t, h1, h2 => rfl
  | x :: r, [], c :: t, h1, h2 => by simp [ltCps] at h1
  | x :: r, y :: u, c :: t, h1, h2 => by
    simp only [ltCps, Bool.or_eq_false_iff, decide_eq_false_iff_not, Bool.and_eq_false_iff, beq_eq_false_iff_ne] at h1 h2 ⊢
    refine ⟨by omega, ?_⟩
    by_cases e : c = x
    · right
      have e1 : y = x := by omega
      have e2 : c = y := by omega
      exact ltCps_trans (h1.2.resolve_left fun z => z e1) (h2.2.resolve_left fun z => z e2)
    · exact .inl e
theorem ltCps_asym {a b : List Nat} (h : ltCps a b = true) : ltCps b a = false := by
  cases q : ltCps b a with
  | false => rfl
  | true =>
    exfalso
    rw [ltCps_eq] at h q
    exact List.lt_irrefl a (List.lt_trans (of_decide_eq_true h) (of_decide_eq_true q))
/-- in order -/
def Asc (l : List Str) : Prop := l.Pairwise fun a b => ltS b a = false
theorem asc_of_rising : ∀ {l : List Str} {p : Str}, risingS p l = true → Asc (p :: l)
  | [], p, _ => List.pairwise_singleton _ _
  | x :: r, p, h => by
    have h' : (!ltCps x.cps.toList p.cps.toList && risingS x r) = true := h
    rw [Bool.and_eq_true] at h'
    have h1 : ltS x p = false := by
      have := h'.1
      unfold ltS
      cases q : ltCps x.cps.toList p.cps.toList with
      | false => rfl
      | true => rw [q] at this; cases this
    have ih := asc_of_rising h'.2
    refine List.pairwise_cons.mpr ⟨fun b hb => ?_, ih⟩
    rcases List.mem_cons.mp hb with e | hb
    · rw [e]; exact h1
    · exact ltCps_trans h1 ((List.pairwise_cons.mp ih).1 b hb)
theorem asc_of {l : List Str} (h : sortedS l = true) : Asc l := by
  cases l with
  | nil => exact List.Pairwise.nil
  | cons x r => exact asc_of_rising h
theorem asc_eq : ∀ {l m : List Str}, l.Perm m → Asc l → Asc m → l = m
  | [], m, h, _, _ => (List.nil_perm.mp h).symm
  | a :: r, [], h, _, _ => by simp at h
  | a :: r, b :: t, h, h1, h2 => by
    obtain ⟨p1, p2⟩ := List.pairwise_cons.mp h1
    obtain ⟨q1, q2⟩ := List.pairwise_cons.mp h2
    have e : a = b := by
      have ha : a ∈ b :: t := h.mem_iff.mp List.mem_cons_self
      have hb : b ∈ a :: r := h.mem_iff.mpr List.mem_cons_self
      rcases List.mem_cons.mp ha with e | ha
      · exact e
      · rcases List.mem_cons.mp hb with e | hb
        · exact e.symm
        · have z1 := p1 b hb
          have z2 := q1 a ha
          have z := ltCps_anti (show ltCps a.cps.toList b.cps.toList = false from z2) (show ltCps b.cps.toList a.cps.toList = false from z1)
          obtain ⟨⟨ca⟩⟩ := a
          obtain ⟨⟨cb⟩⟩ := b
          simp at z
          rw [z]
    subst e
    rw [asc_eq (List.perm_cons a |>.mp h) p2 q2]
def ins (x : Str) : List Str → List Str
  | [] => [x]
  | y :: r => if ltS y x = true then y :: ins x r else x :: y :: r
def srt (l : List Str) : List Str := l.foldr ins []
theorem ins_perm (x : Str) : ∀ l : List Str, (ins x l).Perm (x :: l)
  | [] => List.Perm.refl _
  | y :: r => by
    unfold ins
    split
    · exact ((ins_perm x r).cons y).trans (List.Perm.swap x y r)
    · exact List.Perm.refl _
theorem srt_perm : ∀ l : List Str, (srt l).Perm l
  | [] => List.Perm.refl _
  | x :: r => (ins_perm x (srt r)).trans ((srt_perm r).cons x)
theorem ins_asc (x : Str) : ∀ {l : List Str}, Asc l → Asc (ins x l)
  | [], _ => List.pairwise_singleton _ _
  | y :: r, h => by
    obtain ⟨h1, h2⟩ := List.pairwise_cons.mp h
    unfold ins
    split
    · rename_i hy
      refine List.pairwise_cons.mpr ⟨fun b hb => ?_, ins_asc x h2⟩
      rcases List.mem_cons.mp ((ins_perm x r).mem_iff.mp hb) with e | hb
      · rw [e]; exact ltCps_asym hy
      · exact h1 b hb
    · rename_i hy
      have hy' : ltS y x = false := by simpa using hy
      refine List.pairwise_cons.mpr ⟨fun b hb => ?_, h⟩
      rcases List.mem_cons.mp hb with e | hb
      · rw [e]; exact hy'
      · exact ltCps_trans hy' (h1 b hb)
theorem srt_asc : ∀ l : List Str, Asc (srt l)
  | [] => List.Pairwise.nil
  | x :: r => ins_asc x (srt_asc r)
theorem srt_eq {l ys : List Str} (h : ys.Perm l) (s : sortedS ys = true) : ys = srt l := asc_eq (h.trans (srt_perm l).symm) (asc_of s) (srt_asc l)
theorem mem_srt {l : List Str} {x : Str} : x ∈ srt l ↔ x ∈ l := (srt_perm l).mem_iff
theorem nd_srt {l : List Str} (h : l.Nodup) : (srt l).Nodup := (srt_perm l).nodup_iff.mpr h
theorem len_srt (l : List Str) : (srt l).length = l.length := (srt_perm l).length_eq
/-! ### the text's things -/
/-- no name: zero -/
abbrev e0 : Str := ""
abbrev Row := List (Str × Int)
abbrev Tab := List (Str × Row)
abbrev Part := Str × Int
inductive Sm
  | skip
  | sets (xs : List (Str × Str × Int))
  | mx (hi : Bool) (x : Str) (ps : List Part)
  | call (f : Str) (as : List Part) (rs : List Str)
structure Wy where
  a : Int
  b : Int
  s : Sm
structure Pr where
  kinds : List (Str × Str)
  params : List Str
  results : List Str
  size : Int
  ways : List Wy
structure Fm where
  kinds : List (Str × Str)
  params : List Str
  results : List Str
  table : Tab
abbrev Pg := List (Str × Pr)
/-- a step of a run, or of the run within a procedure -/
inductive Step
  | way (i : Nat)
  | call (i : Nat) (run : List Step)
inductive Mom
  | last (pre : List Step)
  | inn (pre : List Step) (i : Nat) (m : Mom)
/-! ### the Form's reckoning -/
def mn (i j : Int) : Int := if j < i then j else i
def mxx (i j : Int) : Int := if j > i then j else i
def jstep (kind : Str) (f : Row) (p : Part) : Row := put f p.1 (match lk f p.1 with | none => p.2 | some m => if kind = "low" then mn m p.2 else mxx m p.2)
def jfound (kind : Str) (rows : List Part) : Row := rows.foldl (jstep kind) []
def joined (kind : Str) (rows : List Part) : Row := (srt (keys (jfound kind rows))).map fun s => (s, (lk (jfound kind rows) s).getD 0)
def moved (r : Row) (c : Int) : List Part := r.map fun p => (p.1, p.2 + c)
def dictOf (t : Tab) (y : Str) : Row := if y = e0 then [(e0, 0)] else (lk t y).getD []
def ledRow (kind : Str) (row : Row) (inside : Tab) : Row := joined kind (row.flatMap fun p => moved ((lk inside p.1).getD []) p.2)
def handed (t : Tab) (as : List Part) (params : List Str) : Tab := (params.zip as).foldl (fun d x => put d x.1 (mkD (moved (dictOf t x.2.1) x.2.2))) [(e0, [(e0, 0)])]
def kindIn (ks : List (Str × Str)) (x : Str) : Str := (lk ks x).getD e0
def begin_ (p : Pr) : Fm := ⟨p.kinds, p.params, p.results, (keys p.kinds).map fun n => (n, [(if n ∈ p.params then n else e0, 0)])⟩
def after_ (F : Fm) : Sm → Fm
  | .skip => F
  | .sets xs => { F with table := xs.foldl (fun t x => put t x.1 (joined (kindIn F.kinds x.1) (moved (dictOf F.table x.2.1) x.2.2))) F.table }
  | .mx _ x ps => { F with table := put F.table x (joined (kindIn F.kinds x) (ps.flatMap fun p => moved (dictOf F.table p.1) p.2)) }
  | .call _ _ _ => F
def behind_ (F : Fm) (as : List Part) (rs : List Str) (o : Fm) : Fm :=
  { F with table := (rs.zip o.results).foldl (fun t x => put t x.1 (ledRow (kindIn F.kinds x.1) (dictOf o.table x.2) (handed F.table as o.params))) F.table }
def entered_ (F : Fm) (as : List Part) (p : Pr) : Fm :=
  ⟨p.kinds, p.params, p.results, (keys p.kinds).map fun n => (n, (lk (handed F.table as p.params) (if n ∈ p.params then n else e0)).getD [])⟩
def wayS (p : Pr) (i : Nat) : Sm := ((p.ways[i]?).map (·.s)).getD .skip
def prOf (pg : Pg) (f : Str) : Pr := (lk pg f).getD ⟨[], [], [], 0, []⟩
/-- a run's step, by depth -/
def stepF (pg : Pg) : Nat → Str → Fm → Step → Fm
  | _, f, F, .way i => after_ F (wayS (prOf pg f) i)
  | n + 1, f, F, .call i r => match wayS (prOf pg f) i with
    | .call g as rs => behind_ F as rs (r.foldl (stepF pg n g) (begin_ (prOf pg g)))
    | _ => F
  | 0, _, F, .call _ _ => F
def runF (pg : Pg) (n : Nat) (f : Str) (r : List Step) : Fm := r.foldl (stepF pg n f) (begin_ (prOf pg f))
/-- where a moment stands, and its Form -/
def momF (pg : Pg) (n : Nat) : Str → Fm → Mom → Str × Fm
  | f, F, .last pre => (f, pre.foldl (stepF pg n f) F)
  | f, F, .inn pre i m => match wayS (prOf pg f) i with
    | .call g as rs => momF pg n g (entered_ (pre.foldl (stepF pg n f) F) as (prOf pg g)) m
    | _ => (f, F)
end Fp

/-! ## FpRep -/
set_option Elab.async false
set_option linter.all false
set_option maxRecDepth 100000
set_option maxHeartbeats 2000000
namespace Fp
open PySem PySem.Spec PyProof.Rows L2
/-! ### what stays as it is -/
def Im : HO → Prop
  | .tup _ => True
  | .frz _ _ => True
  | .ins _ _ _ => True
  | .own _ => True
  | .xd _ => True
  | .ext _ => True
  | _ => False
def Keep (H H' : Hp) : Prop := ∀ a o, Im o → H a = some o → H' a = some o
/-- all but what stands at b -/
def SmB (b : Addr) (H H' : Hp) : Prop := ∀ a o, a ≠ b → H a = some o → H' a = some o
theorem Keep.refl (H : Hp) : Keep H H := fun _ _ _ h => h
theorem Keep.trans {H H1 H2 : Hp} (a : Keep H H1) (b : Keep H1 H2) : Keep H H2 := fun c o i h => b c o i (a c o i h)
theorem kp_of {H H' : Hp} (s : Same H H') : Keep H H' := fun a o _ h => s a o h
theorem SmB.refl (b : Addr) (H : Hp) : SmB b H H := fun _ _ _ h => h
theorem SmB.trans {b : Addr} {H H1 H2 : Hp} (x : SmB b H H1) (y : SmB b H1 H2) : SmB b H H2 := fun a o n h => y a o n (x a o n h)
theorem smb_of {b : Addr} {H H' : Hp} (s : Same H H') : SmB b H H' := fun a o _ h => s a o h
theorem same_new {H : Hp} {p : Addr} {o : HO} (h : H p = none) : Same H (upd H p o) := fun b x e => by
  rw [upd_ne (ne_of_none e h)]; exact e
theorem Same.mut {H H1 : Hp} {p : Addr} {o : HO} (s : Same H H1) (h : H p = none) : Same H (upd H1 p o) := fun b x e => by
  rw [upd_ne (ne_of_none e h)]; exact s b x e
theorem SmB.mut {b : Addr} {H H1 : Hp} {p : Addr} {o : HO} (s : SmB b H H1) (h : H p = none) : SmB b H (upd H1 p o) := fun c x n e => by
  rw [upd_ne (ne_of_none e h)]; exact s c x n e
theorem SmB.at {b : Addr} {H H1 : Hp} {o : HO} (s : SmB b H H1) : SmB b H (upd H1 b o) := fun c x n e => by
  rw [upd_ne n]; exact s c x n e
theorem kp_new {H : Hp} {p : Addr} {o : HO} (h : H p = none) : Keep H (upd H p o) := kp_of (same_new h)
theorem kp_mut {H : Hp} {p : Addr} {o o' : HO} (h : H p = some o) (n : ¬ Im o) : Keep H (upd H p o') := fun b x i e => by
  have : b ≠ p := fun z => by rw [z, h] at e; cases e; exact n i
  rw [upd_ne this]; exact e
theorem SmB.keep {b : Addr} {H H' : Hp} {o : HO} (s : SmB b H H') (h : H b = some o) (n : ¬ Im o) : Keep H H' := fun a x i e => s a x (fun z => by rw [z, h] at e; cases e; exact n i) e
theorem SmB.some' {b : Addr} {H H' : Hp} {c : Addr} (s : SmB b H H') (h : H' c = none) (n : c ≠ b) : H c = none := by
  cases q : H c with
  | none => rfl
  | some o => rw [s c o n q] at h; cases h
theorem SmB.same {b : Addr} {H H' : Hp} (s : SmB b H H') (h : ∀ o, H b = some o → H' b = some o) : Same H H' := fun a o e => by
  by_cases q : a = b
  · rw [q] at e ⊢; exact h o e
  · exact s a o q e
/-! ### how things of the text stand in the heap -/
abbrev Rep (α : Type) := Hp → V → α → Prop
class Mono {α : Type} (R : Rep α) : Prop where
  mono : ∀ {H H' : Hp} {v : V} {x : α}, Keep H H' → R H v x → R H' v x
theorem mo {α : Type} {R : Rep α} [m : Mono R] {H H' : Hp} {v : V} {x : α} (k : Keep H H') (h : R H v x) : R H' v x := m.mono k h
theorem mos {α : Type} {R : Rep α} [m : Mono R] {H H' : Hp} {xs : List V} {l : List α} (k : Keep H H') (h : Paired (R H) xs l) : Paired (R H') xs l := L2.Paired.mapP h fun _ _ q => mo k q
def rStr : Rep Str := fun _ v z => v = .str z
def rInt : Rep Int := fun _ v z => v = .int z
instance : Mono rStr := ⟨fun _ h => h⟩
instance : Mono rInt := ⟨fun _ h => h⟩
def rPair {α β : Type} (R : Rep α) (S : Rep β) : Rep (α × β) := fun H v p => ∃ a x y, v = .ref a ∧ H a = some (.tup [x, y]) ∧ R H x p.1 ∧ S H y p.2
def rTri {α β γ : Type} (R : Rep α) (S : Rep β) (T : Rep γ) : Rep (α × β × γ) := fun H v p => ∃ a x y z, v = .ref a ∧ H a = some (.tup [x, y, z]) ∧ R H x p.1 ∧ S H y p.2.1 ∧ T H z p.2.2
def rTup {α : Type} (R : Rep α) : Rep (List α) := fun H v l => ∃ a xs, v = .ref a ∧ H a = some (.tup xs) ∧ Paired (R H) xs l
def rLst {α : Type} (R : Rep α) : Rep (List α) := fun H v l => ∃ a od xs, v = .ref a ∧ H a = some (.frz od (.lst xs)) ∧ Paired (R H) xs l
def DicP {α : Type} (R : Rep α) (H : Hp) (kvs : List (Key × V)) (t : List (Str × α)) : Prop := Paired (fun kv p => kv.1 = Sum.inr p.1 ∧ R H kv.2 p.2) kvs t
def rDic {α : Type} (R : Rep α) : Rep (List (Str × α)) := fun H v t => ∃ a od kvs, v = .ref a ∧ H a = some (.frz od (.dK kvs)) ∧ DicP R H kvs t
section
variable {α β γ : Type} {R : Rep α} {S : Rep β} {T : Rep γ}
instance [Mono R] [Mono S] : Mono (rPair R S) := ⟨fun k ⟨a, x, y, e, h, p, q⟩ => ⟨a, x, y, e, k a _ trivial h, mo k p, mo k q⟩⟩
instance [Mono R] [Mono S] [Mono T] : Mono (rTri R S T) := ⟨fun k ⟨a, x, y, z, e, h, p, q, r⟩ => ⟨a, x, y, z, e, k a _ trivial h, mo k p, mo k q, mo k r⟩⟩
instance [Mono R] : Mono (rTup R) := ⟨fun k ⟨a, xs, e, h, p⟩ => ⟨a, xs, e, k a _ trivial h, mos k p⟩⟩
instance [Mono R] : Mono (rLst R) := ⟨fun k ⟨a, od, xs, e, h, p⟩ => ⟨a, od, xs, e, k a _ trivial h, mos k p⟩⟩
theorem DicP.mono [Mono R] {H H' : Hp} {kvs : List (Key × V)} {t : List (Str × α)} (k : Keep H H') (h : DicP R H kvs t) : DicP R H' kvs t := L2.Paired.mapP h fun _ _ q => ⟨q.1, mo k q.2⟩
instance [Mono R] : Mono (rDic R) := ⟨fun k ⟨a, od, kvs, e, h, p⟩ => ⟨a, od, kvs, e, k a _ trivial h, p.mono k⟩⟩
theorem DicP.get {H : Hp} {k : Str} : ∀ {kvs : List (Key × V)} {t : List (Str × α)}, DicP R H kvs t → (lk t k = none ∧ valV kvs (Sum.inr k) = none) ∨ ∃ a v, lk t k = some a ∧ valV kvs (Sum.inr k) = some v ∧ R H v a
  | [], _, .nil => .inl ⟨rfl, rfl⟩
  | p :: r, q :: t, .cons h hr => by
    by_cases e : q.1 = k
    · refine .inr ⟨q.2, p.2, ?_, ?_, h.2⟩
      · unfold lk; rw [if_pos e]
      · exact valV_pos (by rw [h.1, e])
    · have e2 : ¬ p.1 = Sum.inr k := fun z => by rw [h.1] at z; exact e (Sum.inr.inj z)
      have e3 : lk (q :: t) k = lk t k := by
        show (if q.1 = k then some q.2 else lk t k) = _
        rw [if_neg e]
      rw [e3, valV_neg e2]
      exact DicP.get hr
theorem DicP.some {H : Hp} {k : Str} {kvs : List (Key × V)} {t : List (Str × α)} {a : α} (h : DicP R H kvs t) (e : lk t k = some a) : ∃ v, valV kvs (Sum.inr k) = some v ∧ R H v a := by
  rcases h.get (k := k) with ⟨z, _⟩ | ⟨b, v, z, q, r⟩
  · rw [e] at z; cases z
  · rw [e] at z; cases z; exact ⟨v, q, r⟩
theorem DicP.none {H : Hp} {k : Str} {kvs : List (Key × V)} {t : List (Str × α)} (h : DicP R H kvs t) (e : lk t k = none) : valV kvs (Sum.inr k) = none := by
  rcases h.get (k := k) with ⟨_, z⟩ | ⟨b, v, z, q, r⟩
  · exact z
  · rw [e] at z; cases z
theorem DicP.isSome {H : Hp} {k : Str} {kvs : List (Key × V)} {t : List (Str × α)} (h : DicP R H kvs t) : (valV kvs (Sum.inr k)).isSome = (lk t k).isSome := by
  rcases h.get (k := k) with ⟨z, z2⟩ | ⟨b, v, z, q, r⟩
  · rw [z, z2]; rfl
  · rw [z, q]; rfl
theorem DicP.keys {H : Hp} : ∀ {kvs : List (Key × V)} {t : List (Str × α)}, DicP R H kvs t → kvs.map (·.1) = (keys t).map Sum.inr
  | [], _, .nil => rfl
  | p :: r, q :: t, .cons h hr => by
    show p.1 :: r.map (·.1) = Sum.inr q.1 :: (Fp.keys t).map Sum.inr
    rw [h.1, DicP.keys hr]
theorem Paired.app {F : α → β → Prop} : ∀ {l₁ l₂ : List α} {m₁ m₂ : List β}, Paired F l₁ m₁ → Paired F l₂ m₂ → Paired F (l₁ ++ l₂) (m₁ ++ m₂)
  | [], _, _, _, .nil, h => h
  | _ :: _, _, _, _, .cons p t, h => .cons p (Paired.app t h)
theorem Paired.map2 {F : α → β → Prop} {α' β' : Type} {G : α' → β' → Prop} {f : α → α'} {g : β → β'} : ∀ {l : List α} {m : List β}, Paired F l m → (∀ a b, F a b → G (f a) (g b)) → Paired G (l.map f) (m.map g)
  | _, _, .nil, _ => .nil
  | _, _, .cons p t, h => .cons (h _ _ p) (Paired.map2 t h)
theorem Paired.at {F : α → β → Prop} : ∀ {l : List α} {m : List β} {i : Nat} {a : α}, Paired F l m → l[i]? = some a → ∃ b, m[i]? = some b ∧ F a b
  | _, _, _, _, .nil, e => by simp at e
  | _, _, 0, _, .cons r _, e => by simp at e; subst e; exact ⟨_, rfl, r⟩
  | _, _, i + 1, _, .cons _ t, e => by
    obtain ⟨b, h1, h2⟩ := Paired.at (i := i) t (by simpa using e)
    exact ⟨b, by simpa using h1, h2⟩
theorem Paired.at' {F : α → β → Prop} : ∀ {l : List α} {m : List β} {i : Nat} {b : β}, Paired F l m → m[i]? = some b → ∃ a, l[i]? = some a ∧ F a b
  | _, _, _, _, .nil, e => by simp at e
  | _, _, 0, _, .cons r _, e => by simp at e; subst e; exact ⟨_, rfl, r⟩
  | _, _, i + 1, _, .cons _ t, e => by
    obtain ⟨b, h1, h2⟩ := Paired.at' (i := i) t (by simpa using e)
    exact ⟨b, by simpa using h1, h2⟩
theorem DicP.put {H : Hp} {k : Str} {v : V} {a : α} {kvs : List (Key × V)} {t : List (Str × α)} (h : DicP R H kvs t) (r : R H v a) : DicP R H (putK kvs (Sum.inr k) v) (put t k a) := by
  unfold putK Fp.put
  rw [valV_any, h.isSome]
  split
  · refine Paired.map2 h fun kv p q => ?_
    by_cases e : p.1 = k
    · rw [if_pos e, if_pos (by rw [q.1, e])]
      exact ⟨q.1, r⟩
    · rw [if_neg e, if_neg (by rw [q.1]; exact fun z => e (Sum.inr.inj z))]
      exact q
  · exact Paired.app h (.cons ⟨rfl, r⟩ .nil)
theorem DicP.len {H : Hp} {kvs : List (Key × V)} {t : List (Str × α)} (h : DicP R H kvs t) : kvs.length = t.length := Paired.length h
end
/-! ### the bag; what a def changes: nothing that stood (none), or the bag's place alone -/
def Bag (H : Hp) (b : Addr) : Prop := ∃ (n0 n1 n2 : Int) (c : Addr) (od : Obj) (cells : List Int), H b = some (.lst [.int n0, .int n1, .int n2, .ref c]) ∧ H c = some (.frz od (.lst (cells.map V.int))) ∧
  0 ≤ n0 ∧ 0 ≤ n1 ∧ n1 < 2147483648 ∧ 0 ≤ n2 ∧ ∀ x ∈ cells, 0 ≤ x
def Go (m : Option Addr) (H H' : Hp) : Prop := match m with
  | none => Same H H'
  | some b => Bag H b ∧ SmB b H H' ∧ Bag H' b
theorem Bag.at {H : Hp} {b : Addr} (h : Bag H b) : ∃ xs, H b = some (.lst xs) := let ⟨_, _, _, _, _, _, h, _⟩ := h; ⟨_, h⟩
theorem Bag.mono {H H' : Hp} {b : Addr} (h : Bag H b) (s : Same H H') : Bag H' b := let ⟨n0, n1, n2, c, od, cs, h1, h2, r⟩ := h; ⟨n0, n1, n2, c, od, cs, s _ _ h1, s _ _ h2, r⟩
theorem Bag.upd {H : Hp} {b o : Addr} {x : HO} (h : Bag H b) (n : o ≠ b) (n2 : ∀ od u, H o ≠ some (.frz od u)) : Bag (upd H o x) b := by
  obtain ⟨m0, m1, m2, c, od, cs, h1, h2, r⟩ := h
  refine ⟨m0, m1, m2, c, od, cs, ?_, ?_, r⟩
  · rw [upd_ne n.symm]; exact h1
  · rw [upd_ne fun z => n2 _ _ (z ▸ h2)]; exact h2
section
variable {m : Option Addr} {b o : Addr} {H H1 H2 H' : Hp} {x : HO}
theorem go_refl (H : Hp) : Go none H H := Same.refl H
theorem go_bag {H : Hp} {b : Addr} (h : Bag H b) : Go (some b) H H := ⟨h, SmB.refl b H, h⟩
theorem Go.keep (g : Go m H H') : Keep H H' := by
  cases m with
  | none => exact kp_of g
  | some b =>
    obtain ⟨xs, h⟩ := g.1.at
    exact g.2.1.keep h (fun z => z)
theorem Go.trans (g : Go m H H1) (g2 : Go m H1 H2) : Go m H H2 := by
  cases m with
  | none => exact Same.trans g g2
  | some b => exact ⟨g.1, g.2.1.trans g2.2.1, g2.2.2⟩
theorem Go.same (g : Go m H H1) (s : Same H1 H2) : Go m H H2 := by
  cases m with
  | none => exact Same.trans g s
  | some b => exact ⟨g.1, g.2.1.trans (smb_of s), g.2.2.mono s⟩
theorem go_same (b : Bool) (h : Go m H H) (s : Same H H') : Go m H H' := h.same s
theorem Go.bag (g : Go (some b) H H') : Bag H' b := g.2.2
/-- o, new since H, is changed -/
theorem Go.mut (g : Go m H H1) (h : H o = none) (nf : ∀ od u, H1 o ≠ some (.frz od u)) : Go m H (upd H1 o x) := by
  cases m with
  | none => exact Same.mut g h
  | some b =>
    obtain ⟨xs, e⟩ := g.1.at
    exact ⟨g.1, g.2.1.mut h, g.2.2.upd (fun z => by rw [z, e] at h; cases h) nf⟩
theorem Go.new (g : Go m H H1) (h : H1 o = none) : Go m H (upd H1 o x) := g.same (same_new h)
/-- what stands outside the bag stands still -/
theorem Go.own {u : HO} (g : Go m H1 H2) (hm : ∀ b, m = some b → o ≠ b) (h : H1 o = some u) : H2 o = some u := by
  cases m with
  | none => exact g _ _ h
  | some b => exact g.2.1 _ _ (hm b rfl) h
theorem Go.nb (g : Go m H H1) (h : H o = none) : ∀ b, m = some b → o ≠ b := fun b e z => by
  subst e
  obtain ⟨xs, e2⟩ := g.1.at
  rw [z, e2] at h
  cases h
/-- .. so what was free at the end was free at the start -/
theorem Go.free (g : Go m H H1) (h : H1 o = none) : H o = none := by
  cases m with
  | none => exact Same.free g h
  | some b =>
    obtain ⟨xs, e⟩ := g.2.2.at
    exact g.2.1.some' h (fun z => by rw [z, e] at h; cases h)
end
theorem mkD_len {α : Type} (l : List (Str × α)) : (mkD l).length ≤ l.length := by
  have go : ∀ (l : List (Str × α)) (d : List (Str × α)), (l.foldl (fun d p => put d p.1 p.2) d).length ≤ d.length + l.length := by
    intro l
    induction l with
    | nil => intro d; exact Nat.le_refl _
    | cons p r ih =>
      intro d
      have h1 := ih (put d p.1 p.2)
      have h2 := put_len (l := d) (k := p.1) (v := p.2)
      simp only [List.foldl_cons, List.length_cons]
      omega
  have := go l []
  simpa [mkD] using this
/-! ### walks over data -/
def WalkD {α : Type} (J : It) (l : List α) (G : Hp → Prop) (Y : α → Hp → V → Hp → Prop) : Prop := Walk J l.length G fun i H x H' => ∃ a, l[i]? = some a ∧ Y a H x H'
theorem take_at {α : Type} {l : List α} {i : Nat} {a : α} (h : l[i]? = some a) : l.take (i + 1) = l.take i ++ [a] ∧ l.drop i = a :: l.drop (i + 1) := by
  obtain ⟨hi, e⟩ := List.getElem?_eq_some_iff.mp h
  refine ⟨?_, ?_⟩
  · rw [List.take_succ_eq_append_getElem hi, e]
  · rw [List.drop_eq_getElem_cons hi, e]
section
variable {α : Type} {J : It} {l : List α} {G : Hp → Prop} {Y : α → Hp → V → Hp → Prop}
theorem WalkD.mono {G' : Hp → Prop} {Y' : α → Hp → V → Hp → Prop} (w : WalkD J l G Y) (hg : ∀ H, G' H → G H) (hy : ∀ a H x H', G' H → Y a H x H' → Y' a H x H') : WalkD J l G' Y' :=
  Walk.mono w hg fun i H x H' _ g ⟨a, e, y⟩ => ⟨a, e, hy a H x H' g y⟩
/-- a for: what is done, the slots, the heap -/
theorem for_d (w : WalkD J l G Y) {g : TG} {tb : TS} {D : Ends} {σ : L2.St} {H : Hp} (Pv : List α → L2.St → Hp → Prop) (h0 : Pv [] σ H) (hG : ∀ d σ H, Pv d σ H → G H)
    (hs : ∀ d a r x σ H H', l = d ++ a :: r → Pv d σ H → Y a H x H' → g x σ H' fun σ2 H2 => tb { D with nx := Pv (d ++ [a]), ct := Pv (d ++ [a]), bk := D.nx } σ2 H2) (hd : ∀ σ H, Pv l σ H → D.nx σ H) :
    ∃ W : Nat → Nat → L2.St → Hp → Prop, (∃ m, W 0 m σ H) ∧ ∀ i m σ H, W i m σ H →
      (J.stop i H ∧ D.nx σ H) ∨ (J.go i H ∧ ∃ N : L2.St → Hp → Prop, (∀ σ' H', N σ' H' → ∃ m', m' < m ∧ W (i + 1) m' σ' H') ∧ ∀ x H', J.yld i H x H' → g x σ H' fun σ2 H2 => tb { D with nx := N, ct := N, bk := D.nx } σ2 H2) := by
  refine for_it w (fun i σ H => Pv (l.take i) σ H) (by simpa using h0) (fun i σ H _ p => hG _ _ _ p) (fun i x σ H H' hi p y => ?_) fun σ H p => hd σ H (by simpa using p)
  obtain ⟨a, e, y⟩ := y
  obtain ⟨e1, e2⟩ := take_at e
  have := hs (l.take i) a (l.drop (i + 1)) x σ H H' (by rw [← e2, List.take_append_drop]) p y
  rw [← e1] at this
  exact this
/-- a comprehension's list so far; Go from H1 on -/
def LcP {β : Type} (D : Addr) (m : Option Addr) (H1 : Hp) (E : Rep β) (L : List β) (H : Hp) : Prop := Go m H1 H ∧ ∃ acc, H D = some (.lst acc) ∧ Paired (E H) acc L
theorem lc_fin {β : Type} {D : Addr} {m : Option Addr} {H1 H H4 : Hp} {E : Rep β} [Mono E] {L : List β} {y : V} {z : β} (p : LcP D m H1 E L H) (hn : H1 D = none) (g : Go m H H4) (hl : L.length < sizeLine) (e : E H4 y z) :
    ∃ acc, H4 D = some (.lst acc) ∧ acc.length < sizeLine ∧ LcP D m H1 E (L ++ [z]) (upd H4 D (.lst (acc ++ [y]))) := by
  obtain ⟨p1, acc, p2, p3⟩ := p
  have h4 : H4 D = some (.lst acc) := g.own (p1.nb hn) p2
  have k : Keep H4 (upd H4 D (.lst (acc ++ [y]))) := kp_mut h4 (fun z => z)
  refine ⟨acc, h4, by rw [Paired.length p3]; exact hl, (p1.trans g).mut hn (fun od u q => by rw [h4] at q; cases q), _, upd_same, ?_⟩
  exact Paired.app (mos (g.keep.trans k) p3) (.cons (mo k e) .nil)
theorem LcP.go {β : Type} {D : Addr} {m : Option Addr} {H1 H H4 : Hp} {E : Rep β} [Mono E] {L : List β} (p : LcP D m H1 E L H) (hn : H1 D = none) (g : Go m H H4) : LcP D m H1 E L H4 := by
  obtain ⟨p1, acc, p2, p3⟩ := p
  exact ⟨p1.trans g, acc, g.own (p1.nb hn) p2, mos g.keep p3⟩
def LcN {β : Type} (D : Addr) (m : Option Addr) (H1 : Hp) (E : Rep β) (L : List β) (y : V) (H4 : Hp) : Prop := ∃ acc, H4 D = some (.lst acc) ∧ acc.length < sizeLine ∧ LcP D m H1 E L (upd H4 D (.lst (acc ++ [y])))
/-- a comprehension over l that keeps what p says -/
theorem lc_p (w : WalkD J l G Y) {g : TG} {tt : TT} {te : TE} {vs : List Nat} {σ : L2.St} {H1 : Hp} {D : Addr} {Qd : Hp → Prop} {β : Type} (m : Option Addr) (E : Rep β) [Mono E] (p : α → Bool) (f : α → β)
    (hn : H1 D = none) (h0 : Go m H1 H1) (hG : ∀ H, Go m H1 H → G H) (hl : l.length < sizeLine)
    (hs : ∀ d a r x H H', l = d ++ a :: r → Go m H1 H → Y a H x H' → (∀ H4 y, p a = true → Go m H H4 → E H4 y (f a) → LcN D m H1 E (((d ++ [a]).filter p).map f) y H4) →
      (∀ H4, p a = false → Go m H H4 → LcP D m H1 E (((d ++ [a]).filter p).map f) H4) → g x (wipe σ vs) H' fun σ2 H2 => wipe σ2 vs = wipe σ vs ∧ tt σ2 H2 fun b H3 =>
      if b = true then te σ2 H3 fun y H4 => LcN D m H1 E (((d ++ [a]).filter p).map f) y H4 else LcP D m H1 E (((d ++ [a]).filter p).map f) H3)
    (hd : ∀ H acc, Go m H1 H → H D = some (.lst acc) → Paired (E H) acc ((l.filter p).map f) → Qd H) :
    ∃ W : Nat → Nat → Hp → Prop, (∃ m, W 0 m (upd H1 D (.lst []))) ∧ ∀ i m H, W i m H →
      (J.stop i H ∧ Qd H) ∨ (J.go i H ∧ ∃ Nx : Hp → Prop, (∀ H', Nx H' → ∃ m', m' < m ∧ W (i + 1) m' H') ∧ ∀ x H', J.yld i H x H' → g x (wipe σ vs) H' fun σ2 H2 => wipe σ2 vs = wipe σ vs ∧ tt σ2 H2 fun b H3 =>
        if b = true then te σ2 H3 fun y H4 => ∃ acc, H4 D = some (.lst acc) ∧ acc.length < sizeLine ∧ Nx (upd H4 D (.lst (acc ++ [y]))) else Nx H3) := by
  refine lc_it w (fun i H => LcP D m H1 E (((l.take i).filter p).map f) H) ?_ (fun i H _ q => hG H q.1) (fun i x H H' hi q y => ?_) fun H q => ?_
  · refine ⟨h0.mut hn (fun od u q => by rw [hn] at q; cases q), [], upd_same, ?_⟩
    simp only [List.take_zero, List.filter_nil, List.map_nil]
    exact .nil
  · obtain ⟨a, e, y⟩ := y
    obtain ⟨e1, e2⟩ := take_at e
    have el : l = l.take i ++ a :: l.drop (i + 1) := by rw [← e2, List.take_append_drop]
    have z := hs (l.take i) a (l.drop (i + 1)) x H H' el q.1 y (fun H4 y ha go he => ?_) fun H4 ha go => ?_
    · rw [← e1] at z
      exact z
    · have : (((l.take i ++ [a]).filter p).map f) = ((l.take i).filter p).map f ++ [f a] := by
        rw [List.filter_append, List.map_append]
        simp [ha]
      rw [this]
      refine lc_fin q hn go ?_ he
      rw [List.length_map]
      exact Nat.lt_of_le_of_lt (Nat.le_trans (List.length_filter_le _ _) (List.length_take_le _ _)) (Nat.lt_of_le_of_lt (Nat.le_of_lt hi) hl)
    · have : (((l.take i ++ [a]).filter p).map f) = ((l.take i).filter p).map f := by
        rw [List.filter_append, List.map_append]
        simp [ha]
      rw [this]
      exact q.go hn go
  · obtain ⟨q1, acc, q2, q3⟩ := q
    rw [List.take_length] at q3
    exact hd H acc q1 q2 q3
/-- a comprehension over l -/
theorem lc_m (w : WalkD J l G Y) {g : TG} {tt : TT} {te : TE} {vs : List Nat} {σ : L2.St} {H1 : Hp} {D : Addr} {Qd : Hp → Prop} {β : Type} (m : Option Addr) (E : Rep β) [Mono E] (f : α → β)
    (hn : H1 D = none) (h0 : Go m H1 H1) (hG : ∀ H, Go m H1 H → G H) (hl : l.length < sizeLine)
    (hs : ∀ a x H H' L, a ∈ l → Go m H1 H → Y a H x H' → (∀ H4 y, Go m H H4 → E H4 y (f a) → LcN D m H1 E L y H4) → g x (wipe σ vs) H' fun σ2 H2 => wipe σ2 vs = wipe σ vs ∧ tt σ2 H2 fun b H3 =>
      if b = true then te σ2 H3 fun y H4 => LcN D m H1 E L y H4 else LcP D m H1 E L H3)
    (hd : ∀ H acc, Go m H1 H → H D = some (.lst acc) → Paired (E H) acc (l.map f) → Qd H) :
    ∃ W : Nat → Nat → Hp → Prop, (∃ m, W 0 m (upd H1 D (.lst []))) ∧ ∀ i m H, W i m H →
      (J.stop i H ∧ Qd H) ∨ (J.go i H ∧ ∃ Nx : Hp → Prop, (∀ H', Nx H' → ∃ m', m' < m ∧ W (i + 1) m' H') ∧ ∀ x H', J.yld i H x H' → g x (wipe σ vs) H' fun σ2 H2 => wipe σ2 vs = wipe σ vs ∧ tt σ2 H2 fun b H3 =>
        if b = true then te σ2 H3 fun y H4 => ∃ acc, H4 D = some (.lst acc) ∧ acc.length < sizeLine ∧ Nx (upd H4 D (.lst (acc ++ [y]))) else Nx H3) :=
  lc_p w m E (fun _ => true) f hn h0 hG hl (fun d a r x H H' el q y fin _ => hs a x H H' _ (by rw [el]; simp) q y fun H4 y' => fin H4 y' rfl)
    fun H acc q1 q2 q3 => hd H acc q1 q2 (by rw [List.filter_eq_self.mpr (fun _ _ => rfl)] at q3; exact q3)
/-- what it makes is told of each by itself (there is no one function): A a z -/
theorem lc_r (w : WalkD J l G Y) {g : TG} {tt : TT} {te : TE} {vs : List Nat} {σ : L2.St} {H1 : Hp} {D : Addr} {Qd : Hp → Prop} {β : Type} (m : Option Addr) (E : Rep β) [Mono E] (A : α → β → Prop)
    (hn : H1 D = none) (h0 : Go m H1 H1) (hG : ∀ H, Go m H1 H → G H) (hl : l.length < sizeLine)
    (hs : ∀ a x H H' (N : V → Hp → Prop) (S : Hp → Prop), a ∈ l → Go m H1 H → Y a H x H' → (∀ H4 y z, Go m H H4 → A a z → E H4 y z → N y H4) → g x (wipe σ vs) H' fun σ2 H2 => wipe σ2 vs = wipe σ vs ∧ tt σ2 H2 fun b H3 =>
      if b = true then te σ2 H3 fun y H4 => N y H4 else S H3)
    (hd : ∀ H acc zs, Go m H1 H → H D = some (.lst acc) → Paired (E H) acc zs → Paired A l zs → Qd H) :
    ∃ W : Nat → Nat → Hp → Prop, (∃ m, W 0 m (upd H1 D (.lst []))) ∧ ∀ i m H, W i m H →
      (J.stop i H ∧ Qd H) ∨ (J.go i H ∧ ∃ Nx : Hp → Prop, (∀ H', Nx H' → ∃ m', m' < m ∧ W (i + 1) m' H') ∧ ∀ x H', J.yld i H x H' → g x (wipe σ vs) H' fun σ2 H2 => wipe σ2 vs = wipe σ vs ∧ tt σ2 H2 fun b H3 =>
        if b = true then te σ2 H3 fun y H4 => ∃ acc, H4 D = some (.lst acc) ∧ acc.length < sizeLine ∧ Nx (upd H4 D (.lst (acc ++ [y]))) else Nx H3) := by
  refine lc_it w (fun i H => ∃ L, Paired A (l.take i) L ∧ LcP D m H1 E L H) ?_ (fun i H _ ⟨_, _, q⟩ => hG H q.1) (fun i x H H' hi ⟨L, pa, q⟩ y => ?_) fun H ⟨L, pa, q⟩ => ?_
  · exact ⟨[], by rw [List.take_zero]; exact .nil, h0.mut hn (fun od u q => by rw [hn] at q; cases q), [], upd_same, .nil⟩
  · obtain ⟨a, e, y⟩ := y
    obtain ⟨e1, e2⟩ := take_at e
    refine hs a x H H' _ _ (List.mem_of_getElem? e) q.1 y fun H4 y' z go ha he => ?_
    obtain ⟨acc, f1, f2, f3⟩ := lc_fin q hn go (by rw [← Paired.length pa]; exact Nat.lt_of_le_of_lt (List.length_take_le _ _) (Nat.lt_of_le_of_lt (Nat.le_of_lt hi) hl)) he
    exact ⟨acc, f1, f2, L ++ [z], by rw [e1]; exact Paired.snoc pa ha, f3⟩
  · obtain ⟨q1, acc, q2, q3⟩ := q
    rw [List.take_length] at pa
    exact hd H acc L q1 q2 q3 pa
/-! dict comprehensions -/
def DcP {β : Type} (D : Addr) (m : Option Addr) (H1 : Hp) (E : Rep β) (L : List (Str × β)) (H : Hp) : Prop := Go m H1 H ∧ ∃ kvs, H D = some (.dK kvs) ∧ DicP E H kvs L
def DcN {β : Type} (D : Addr) (m : Option Addr) (H1 : Hp) (E : Rep β) (L : List (Str × β)) (y z : V) (H5 : Hp) : Prop := ∃ kvs k, y = kV k ∧ H5 D = some (.dK kvs) ∧ kvs.length < sizeLine ∧ DcP D m H1 E L (upd H5 D (.dK (putK kvs k z)))
theorem dc_fin {β : Type} {D : Addr} {m : Option Addr} {H1 H H4 : Hp} {E : Rep β} [Mono E] {L : List (Str × β)} {k : Str} {y : V} {z : β} (p : DcP D m H1 E L H) (hn : H1 D = none) (g : Go m H H4) (hl : L.length < sizeLine) (e : E H4 y z) :
    DcN D m H1 E (put L k z) (.str k) y H4 := by
  obtain ⟨p1, kvs, p2, p3⟩ := p
  have h4 : H4 D = some (.dK kvs) := g.own (p1.nb hn) p2
  have k' : Keep H4 (upd H4 D (.dK (putK kvs (Sum.inr k) y))) := kp_mut h4 (fun z => z)
  refine ⟨kvs, Sum.inr k, rfl, h4, by rw [p3.len]; exact hl, (p1.trans g).mut hn (fun od u q => by rw [h4] at q; cases q), _, upd_same, ?_⟩
  exact (p3.mono (g.keep.trans k')).put (mo k' e)
theorem dc_m (w : WalkD J l G Y) {g : TG} {tt : TT} {tk tv : TE} {vs : List Nat} {σ : L2.St} {H1 : Hp} {D : Addr} {Qd : Hp → Prop} {β : Type} (m : Option Addr) (E : Rep β) [Mono E] (fk : α → Str) (f : α → β)
    (hn : H1 D = none) (h0 : Go m H1 H1) (hG : ∀ H, Go m H1 H → G H) (hl : l.length < sizeLine)
    (hs : ∀ a x H H' L, a ∈ l → Go m H1 H → Y a H x H' → (∀ H4 y, Go m H H4 → E H4 y (f a) → DcN D m H1 E L (.str (fk a)) y H4) → g x (wipe σ vs) H' fun σ2 H2 => wipe σ2 vs = wipe σ vs ∧ tt σ2 H2 fun b H3 =>
      if b = true then tk σ2 H3 fun y H4 => tv σ2 H4 fun z H5 => DcN D m H1 E L y z H5 else DcP D m H1 E L H3)
    (hd : ∀ H kvs, Go m H1 H → H D = some (.dK kvs) → DicP E H kvs (mkD (l.map fun a => (fk a, f a))) → Qd H) :
    ∃ W : Nat → Nat → Hp → Prop, (∃ m, W 0 m (upd H1 D (.dK []))) ∧ ∀ i m H, W i m H →
      (J.stop i H ∧ Qd H) ∨ (J.go i H ∧ ∃ Nx : Hp → Prop, (∀ H', Nx H' → ∃ m', m' < m ∧ W (i + 1) m' H') ∧ ∀ x H', J.yld i H x H' → g x (wipe σ vs) H' fun σ2 H2 => wipe σ2 vs = wipe σ vs ∧ tt σ2 H2 fun b H3 =>
        if b = true then tk σ2 H3 fun y H4 => tv σ2 H4 fun z H5 => ∃ kvs k, y = kV k ∧ H5 D = some (.dK kvs) ∧ kvs.length < sizeLine ∧ Nx (upd H5 D (.dK (putK kvs k z))) else Nx H3) := by
  refine ⟨fun i m' H => m' = l.length - i ∧ i ≤ l.length ∧ DcP D m H1 E (mkD ((l.take i).map fun a => (fk a, f a))) H, ⟨l.length, by simp, Nat.zero_le _, ?_⟩, ?_⟩
  · exact ⟨h0.mut hn (fun od u q => by rw [hn] at q; cases q), [], upd_same, by simp only [List.take_zero, List.map_nil]; exact .nil⟩
  · rintro i m' H ⟨rfl, hi, q⟩
    by_cases hlt : i < l.length
    · refine .inr ⟨w.goes i H hlt (hG H q.1), DcP D m H1 E (mkD ((l.take (i + 1)).map fun a => (fk a, f a))), fun H' q' => ⟨l.length - (i + 1), by omega, rfl, hlt, q'⟩, fun x H' y => ?_⟩
      obtain ⟨a, e, y⟩ := w.yields i H x H' hlt (hG H q.1) y
      obtain ⟨e1, e2⟩ := take_at e
      refine hs a x H H' _ (List.mem_of_getElem? e) q.1 y fun H4 y' go he => ?_
      have : mkD ((l.take (i + 1)).map fun a => (fk a, f a)) = put (mkD ((l.take i).map fun a => (fk a, f a))) (fk a) (f a) := by
        rw [e1, List.map_append]
        show List.foldl _ _ _ = _
        rw [List.foldl_append]
        rfl
      rw [this]
      refine dc_fin q hn go ?_ he
      refine Nat.lt_of_le_of_lt (Nat.le_trans (mkD_len _) ?_) hl
      rw [List.length_map]
      exact List.length_take_le' _ _
    · have e : i = l.length := by omega
      subst e
      obtain ⟨q1, kvs, q2, q3⟩ := q
      rw [List.take_length] at q3
      exact .inl ⟨w.stops H (hG H q1), hd H kvs q1 q2 q3⟩
end
/-! the walks -/
section
variable {K : PySem.W.Frag} {a b : Addr} {α β : Type} {R : V → α → Prop} {S : V → β → Prop} {xs ys : List V} {l : List α} {l2 : List β}
theorem wd_list (p : Paired R xs l) : WalkD (Itl K a) l (fun H => SqL K H a xs) (fun z H x H' => H' = H ∧ R x z) := by
  unfold WalkD
  rw [← Paired.length p]
  refine Walk.mono (walk_list (xs := xs)) (fun _ h => h) fun i H x H' _ _ y => ?_
  obtain ⟨z, e, r⟩ := Paired.at p y.2
  exact ⟨z, e, y.1, r⟩
theorem wd_tup (p : Paired R xs l) : WalkD (Itt K a) l (fun H => SqT K H a xs) (fun z H x H' => H' = H ∧ R x z) := by
  unfold WalkD
  rw [← Paired.length p]
  refine Walk.mono (walk_tup (xs := xs)) (fun _ h => h) fun i H x H' _ _ y => ?_
  obtain ⟨z, e, r⟩ := Paired.at p y.2
  exact ⟨z, e, y.1, r⟩
theorem wd_range {n : Nat} : WalkD (Itr 0 n) (List.range n) (fun _ => True) (fun z H x H' => H' = H ∧ x = .int (z : Nat)) := by
  unfold WalkD
  rw [List.length_range]
  refine Walk.mono walk_range (fun _ h => h) fun i H x H' hi _ y => ?_
  exact ⟨i, by simp [hi], y.1, by rw [y.2]; simp⟩
theorem wd_range2 {lo : Int} {n : Nat} : WalkD (Itr lo n) (List.range n) (fun _ => True) (fun z H x H' => H' = H ∧ x = .int (lo + (z : Nat))) := by
  unfold WalkD
  rw [List.length_range]
  refine Walk.mono walk_range (fun _ h => h) fun i H x H' hi _ y => ?_
  exact ⟨i, by simp [hi], y.1, y.2⟩
theorem wd_keys {d : Addr} {o : Obj} {kvs : List (Key × V)} {t : List (Str × α)} (p : Paired (fun kv q => kv.1 = Sum.inr q.1 ∧ R kv.2 q.2) kvs t) : WalkD (Itk d o kvs) t (fun H => H d = some (.frz o (.dK kvs))) (fun z H x H' => H' = H ∧ x = .str z.1) := by
  unfold WalkD
  rw [← Paired.length p]
  refine Walk.mono walk_keys (fun _ h => h) fun i H x H' _ _ y => ?_
  obtain ⟨e, k, v, e1, e2⟩ := y
  obtain ⟨z, e3, r⟩ := Paired.at p e1
  have e4 : k = Sum.inr z.1 := r.1
  exact ⟨z, e3, e, by rw [e2, e4]; rfl⟩
theorem wd_values {d : Addr} {o : Obj} {kvs : List (Key × V)} {t : List (Str × α)} (p : Paired (fun kv q => kv.1 = Sum.inr q.1 ∧ R kv.2 q.2) kvs t) : WalkD (Itd d o kvs) t (fun H => H d = some (.frz o (.dK kvs))) (fun z H x H' => H' = H ∧ R x z.2) := by
  unfold WalkD
  rw [← Paired.length p]
  refine Walk.mono walk_values (fun _ h => h) fun i H x H' _ _ y => ?_
  obtain ⟨e, k, e1⟩ := y
  obtain ⟨z, e3, r⟩ := Paired.at p e1
  exact ⟨z, e3, e, r.2⟩
theorem wd_items {d : Addr} {o : Obj} {kvs : List (Key × V)} {t : List (Str × α)} (p : Paired (fun kv q => kv.1 = Sum.inr q.1 ∧ R kv.2 q.2) kvs t) :
    WalkD (Iti d o kvs) t (fun H => H d = some (.frz o (.dK kvs))) (fun z H x H' => ∃ T y, x = .ref T ∧ H T = none ∧ H' = upd H T (.tup [.str z.1, y]) ∧ R y z.2) := by
  unfold WalkD
  rw [← Paired.length p]
  refine Walk.mono walk_items (fun _ h => h) fun i H x H' _ _ y => ?_
  obtain ⟨T, k, v, h1, h2, h3, h4, h5⟩ := y
  obtain ⟨kv, e1, e2⟩ := Option.map_eq_some_iff.mp h4
  obtain ⟨kv', e1', e2'⟩ := Option.map_eq_some_iff.mp h5
  rw [e1] at e1'
  cases e1'
  obtain ⟨z, e3, r⟩ := Paired.at p e1
  refine ⟨z, e3, T, v, h1, h2, ?_, by rw [← e2']; exact r.2⟩
  rw [h3, ← e2, r.1]
  rfl
theorem wd_enum (p : Paired R xs l) : WalkD (Ite K a) (l.zipIdx) (fun H => SqL K H a xs) (fun z H x H' => ∃ T y, x = .ref T ∧ H T = none ∧ H' = upd H T (.tup [.int (z.2 : Nat), y]) ∧ R y z.1) := by
  unfold WalkD
  rw [List.length_zipIdx, ← Paired.length p]
  refine Walk.mono (walk_enum (xs := xs)) (fun _ h => h) fun i H x H' _ _ y => ?_
  obtain ⟨T, k, v, h1, h2, h3, h4, h5⟩ := y
  obtain ⟨z, e, r⟩ := Paired.at p h5
  cases h4
  exact ⟨(z, i), by rw [List.getElem?_zipIdx, e]; simp, T, v, h1, h2, h3, r⟩
/-- zip of two tuples -/
theorem wd_zipT (p : Paired R xs l) (q : Paired S ys l2) : WalkD (RZ.ItzT K a b) (l.zip l2) (fun H => SqT K H a xs ∧ SqT K H b ys) (fun z H x H' => ∃ T u v, x = .ref T ∧ H T = none ∧ H' = upd H T (.tup [u, v]) ∧ R u z.1 ∧ S v z.2) := by
  have hn : (l.zip l2).length = min xs.length ys.length := by rw [List.length_zip, Paired.length p, Paired.length q]
  refine ⟨fun i H hi g => ?_, fun H g => ?_, fun i H x H' hi g y => ?_⟩
  · rw [hn] at hi
    have h1 : i < xs.length := by omega
    have h2 : i < ys.length := by omega
    exact ⟨xs, ys, xs[i], ys[i], g.1, g.2, by simp [h1], by simp [h2]⟩
  · refine ⟨xs, ys, g.1, g.2, ?_⟩
    rw [hn]; omega
  · obtain ⟨T, u, v, h1, h2, h3, h4, h5⟩ := y
    obtain ⟨z, e, r⟩ := Paired.at p (h4 xs g.1)
    obtain ⟨z2, e2, r2⟩ := Paired.at q (h5 ys g.2)
    exact ⟨(z, z2), by rw [List.getElem?_zip_eq_some]; exact ⟨e, e2⟩, T, u, v, h1, h2, h3, r, r2⟩
end
/-! ### small readings -/
section
variable {X : Cx} {x : Str} {pos : Pos}
theorem pe_gs {z : Str} (hg : Gl X x) (hm : ∃ t, X.mg x = some (.str z t)) (hd : (x == ("__debug__" : Str)) = false := by decide) : PE X (.Name x pos) (tC (.str z)) := by
  obtain ⟨t, hm⟩ := hm
  exact pe_glob hg hm ⟨_, rfl⟩ hd
theorem pe_gi {i : Int} (hg : Gl X x) (hm : ∃ t, X.mg x = some (.int i t)) (hd : (x == ("__debug__" : Str)) = false := by decide) : PE X (.Name x pos) (tC (.int i)) := by
  obtain ⟨t, hm⟩ := hm
  exact pe_glob hg hm ⟨_, rfl⟩ hd
end
section
variable {K : PySem.W.Frag} {H : Hp} {Q : VK} {x : V} {T U : String} {b : Bool}
theorem kt_ii : PySem.W.kitOne K (.type "int") (.type "int") = some true := kit_ty (by decide +kernel)
theorem kt_ib : PySem.W.kitOne K (.type "int") (.type "bool") = some false := kit_ty (by decide +kernel)
theorem kt_it : PySem.W.kitOne K (.type "int") (.type "tuple") = some false := kit_ty (by decide +kernel)
theorem kt_ss : PySem.W.kitOne K (.type "str") (.type "str") = some true := kit_ty (by decide +kernel)
theorem kt_sl : PySem.W.kitOne K (.type "str") (.type "list") = some false := kit_ty (by decide +kernel)
theorem kt_tt : PySem.W.kitOne K (.type "tuple") (.type "tuple") = some true := kit_ty (by decide +kernel)
theorem kt_tl : PySem.W.kitOne K (.type "tuple") (.type "list") = some false := kit_ty (by decide +kernel)
theorem kt_dd : PySem.W.kitOne K (.type "dict") (.type "dict") = some true := kit_ty (by decide +kernel)
theorem ty_dic {a : Addr} {kvs : List (Key × V)} (h : Rd H a (.dK kvs)) : TyX K H (.ref a) (.type "dict") := by
  rcases h with h | ⟨o, h⟩
  · exact .base (.dK h)
  · exact .fDict h
end
/-- a list or a tuple -/
def Sq2 (H : Hp) (a : Addr) (xs : List V) : Prop := ∃ o, (o = .lst xs ∨ (∃ ob, o = .frz ob (.lst xs)) ∨ o = .tup xs) ∧ H a = some o
section
variable {K : PySem.W.Frag} {H : Hp}
/-- isinstance(x, (list, tuple)) -/
theorem lt_any {a : Addr} {xs : List V} (h : Sq2 H a xs) : ∃ t, TyX K H (.ref a) t ∧ PySem.W.kitAny K t [Value.type "list", Value.type "tuple"] = some true := by
  have one : PySem.W.kitOne K (.type "list") (.type "list") = some true := kit_ty (by decide +kernel)
  have two : PySem.W.kitOne K (.type "tuple") (.type "list") = some false := kit_ty (by decide +kernel)
  have three : PySem.W.kitOne K (.type "tuple") (.type "tuple") = some true := kit_ty (by decide +kernel)
  have a1 : PySem.W.kitAny K (.type "list") [Value.type "list", Value.type "tuple"] = some true := kitAny_cons one (fun z => nomatch z) fun _ => rfl
  have a2 : PySem.W.kitAny K (.type "tuple") [Value.type "list", Value.type "tuple"] = some true := kitAny_cons two (fun _ => kitAny_cons three (fun z => nomatch z) fun _ => rfl) fun _ => rfl
  obtain ⟨o, h | ⟨ob, h⟩ | h, e⟩ := h
  · subst h
    exact ⟨_, .base (.lst e), a1⟩
  · subst h
    exact ⟨_, .base (.frz e), a1⟩
  · subst h
    exact ⟨_, .base (.tup e), a2⟩
theorem lt_cls : Paired ClsV [.ty "list", .ty "tuple"] [Value.type "list", Value.type "tuple"] := .cons (.ty _) (.cons (.ty _) .nil)
end
theorem Sq2.or {K : PySem.W.Frag} {H : Hp} {a : Addr} {xs : List V} (h : Sq2 H a xs) : SqL K H a xs ∨ SqT K H a xs := by
  obtain ⟨o, h | ⟨ob, h⟩ | h, e⟩ := h
  · subst h; exact .inl (.inl (.inl e))
  · subst h; exact .inl (.inl (.inr ⟨_, e⟩))
  · subst h; exact .inr (.inl (.inl e))
theorem Sq2.same {H H' : Hp} {a : Addr} {xs : List V} (h : Sq2 H a xs) (s : Same H H') : Sq2 H' a xs := let ⟨o, h, e⟩ := h; ⟨o, h, s _ _ e⟩
def letters : List Nat := (Str.ofString "abcdefghijklmnopqrstuvwxyz").cps.toList
def IsNm (z : Str) : Prop := 1 ≤ z.length ∧ z.length ≤ 8 ∧ ∀ c ∈ z.cps.toList, c ∈ letters
theorem IsNm.ne {z : Str} (h : IsNm z) : z ≠ e0 := fun e => by
  rw [e] at h
  exact absurd h.1 (by decide)
def rBl : Rep Bool := fun _ v b => v = .bl b
instance : Mono rBl := ⟨fun _ h => h⟩
theorem bls_of {H : Hp} : ∀ {xs : List V} {bs : List Bool}, Paired (rBl H) xs bs → xs = bs.map V.bl
  | _, _, .nil => rfl
  | _, _, .cons h t => by rw [List.map_cons, ← bls_of t, ← h]
theorem strs_of {H : Hp} : ∀ {xs : List V} {bs : List Str}, Paired (rStr H) xs bs → xs = bs.map V.str
  | _, _, .nil => rfl
  | _, _, .cons h t => by rw [List.map_cons, ← strs_of t, ← h]
theorem ints_of {H : Hp} : ∀ {xs : List V} {bs : List Int}, Paired (rInt H) xs bs → xs = bs.map V.int
  | _, _, .nil => rfl
  | _, _, .cons h t => by rw [List.map_cons, ← ints_of t, ← h]
theorem of_strs {H : Hp} : ∀ (bs : List Str), Paired (rStr H) (bs.map V.str) bs
  | [] => .nil
  | _ :: r => .cons rfl (of_strs r)
theorem of_ints {H : Hp} : ∀ (bs : List Int), Paired (rInt H) (bs.map V.int) bs
  | [] => .nil
  | _ :: r => .cons rfl (of_ints r)
theorem wd_str {z : Str} : WalkD (Its z) z.cps.toList (fun _ => True) (fun c H x H' => H' = H ∧ x = .str ⟨#[c]⟩) := by
  unfold WalkD
  rw [Array.length_toList]
  refine Walk.mono walk_str (fun _ h => h) fun i H x H' _ _ y => ?_
  obtain ⟨e, c, h1, h2⟩ := y
  exact ⟨c, by rw [Array.getElem?_toList]; exact h1, e, h2⟩
theorem inV_strs (a : Str) : ∀ l : List Str, inV (.str a) (l.map V.str) = decide (a ∈ l)
  | [] => by simp [inV]
  | b :: r => by
    have ih := inV_strs a r
    unfold inV at ih ⊢
    rw [List.map_cons, List.any_cons, ih]
    show (b == a || decide (a ∈ r)) = decide (a ∈ b :: r)
    by_cases e : a = b
    · simp [e]
    · have : (b == a) = false := by simpa [beq_eq_false_iff_ne] using fun z => e z.symm
      simp [this, e]
theorem ln1 {a : V} : [a].length ≤ sizeLine := by show 1 ≤ sizeLine; decide
theorem ln2 {a b : V} : [a, b].length ≤ sizeLine := by show 2 ≤ sizeLine; decide
theorem ln3 {a b c : V} : [a, b, c].length ≤ sizeLine := by show 3 ≤ sizeLine; decide
theorem ln4 {a b c d : V} : [a, b, c, d].length ≤ sizeLine := by show 4 ≤ sizeLine; decide
theorem ln5 {a b c d e : V} : [a, b, c, d, e].length ≤ sizeLine := by show 5 ≤ sizeLine; decide
theorem sz1000 {n : Nat} (h : n ≤ 1000) : n < sizeLine := Nat.lt_of_le_of_lt h (by decide)
theorem sz1000' {n : Nat} (h : n ≤ 1000) : n ≤ sizeLine := Nat.le_of_lt (sz1000 h)
theorem all_true {α : Type} : ∀ l : List α, ((l.map fun _ => true).all id) = true
  | [] => rfl
  | _ :: r => by rw [List.map_cons, List.all_cons, all_true r]; rfl
theorem dstr (a b : Str) : decide (V.str a = V.str b) = decide (a = b) := by
  by_cases e : a = b
  · simp [e]
  · simp [e]
theorem dint (a b : Int) : decide (V.int a = V.int b) = decide (a = b) := by
  by_cases e : a = b
  · simp [e]
  · simp [e]
theorem bT {p : Prop} [Decidable p] (h : p) : V.bl (decide p) = V.bl true := congrArg V.bl (decide_eq_true h)
theorem bF {p : Prop} [Decidable p] (h : ¬ p) : V.bl (decide p) = V.bl false := congrArg V.bl (decide_eq_false h)
theorem nbT {p : Prop} [Decidable p] (h : ¬ p) : V.bl (!decide p) = V.bl true := by rw [decide_eq_false h]; rfl
theorem nbF {p : Prop} [Decidable p] (h : p) : V.bl (!decide p) = V.bl false := by rw [decide_eq_true h]; rfl
theorem sT {a b : Str} (h : a = b) : V.bl (decide (V.str a = V.str b)) = V.bl true := bT (by rw [h])
theorem sF {a b : Str} (h : a ≠ b) : V.bl (decide (V.str a = V.str b)) = V.bl false := bF (fun z => h (V.str.inj z))
theorem yes {σ : L2.St} {H : Hp} {A B : Hp → Prop} (h : A H) : tYes σ H fun b H3 => if b = true then A H3 else B H3 := by
  show if true = true then A H else B H
  exact iteT h
theorem any_wd {α : Type} {K : PySem.W.Frag} {H H0 : Hp} {a : Addr} {xs : List V} {l : List α} {R : V → α → Prop} {tl : TE} {σ : L2.St} {R' : It → Hp → Prop} (h : Sq2 H a xs) (p : Paired R xs l) (ht : ∀ Q : VK, Q (.ref a) H → tl σ H0 Q)
    (k : ∀ J G, WalkD J l G (fun z H x H' => H' = H ∧ R x z) → (∀ H', Same H H' → G H') → R' J H) : iAny K tl σ H0 R' := by
  have hl : ∀ {H' : Hp}, Same H H' → SqL K H a xs → SqL K H' a xs := fun s q => s.seq q
  obtain ⟨o, h | ⟨ob, h⟩ | h, e⟩ := h
  · subst h
    exact .inl (ht _ ⟨a, rfl, ⟨xs, .inl (.inl e)⟩, k _ _ (wd_list p) fun H' s => .inl (.inl (s _ _ e))⟩)
  · subst h
    exact .inl (ht _ ⟨a, rfl, ⟨xs, .inl (.inr ⟨_, e⟩)⟩, k _ _ (wd_list p) fun H' s => .inl (.inr ⟨_, s _ _ e⟩)⟩)
  · subst h
    exact .inr (ht _ ⟨a, rfl, ⟨xs, .inl (.inl e)⟩, k _ _ (wd_tup p) fun H' s => .inl (.inl (s _ _ e))⟩)
theorem alls {K : PySem.W.Frag} {H : Hp} {D : Addr} {acc : List V} {α : Type} {l : List α} (h : H D = some (.lst acc)) (p : Paired (rBl H) acc (l.map fun _ => true)) : SqL K H D ((l.map fun _ => true).map V.bl) := .inl (.inl (by rw [h, bls_of p]))
def rSelf : Rep V := fun _ v x => v = x
instance : Mono rSelf := ⟨fun _ h => h⟩
theorem of_self {H : Hp} : ∀ xs : List V, Paired (rSelf H) xs xs
  | [] => .nil
  | _ :: r => .cons rfl (of_self r)
theorem self_of {H : Hp} : ∀ {xs ys : List V}, Paired (rSelf H) xs ys → xs = ys
  | _, _, .nil => rfl
  | _, _, .cons h t => by rw [h, self_of t]
/-! ### statements, ways -/
abbrev rPart : Rep Part := rPair rStr rInt
def rSm : Rep Sm := fun H v s => match s with
  | .skip => ∃ a, v = .ref a ∧ H a = some (.tup [.str "skip"])
  | .sets xs => ∃ a w, v = .ref a ∧ H a = some (.tup [.str "set", w]) ∧ rTup (rTri rStr rStr rInt) H w xs
  | .mx hi x ps => ∃ a w, v = .ref a ∧ H a = some (.tup [.str (if hi = true then "most" else "least"), .str x, w]) ∧ rTup rPart H w ps
  | .call f as rs => ∃ a w u, v = .ref a ∧ H a = some (.tup [.str "call", .str f, w, u]) ∧ rTup rPart H w as ∧ rTup rStr H u rs
instance : Mono rSm := ⟨fun {H H' v x} k h => by
  cases x with
  | skip => obtain ⟨a, e, h⟩ := h; exact ⟨a, e, k _ _ trivial h⟩
  | sets xs => obtain ⟨a, w, e, h, p⟩ := h; exact ⟨a, w, e, k _ _ trivial h, mo k p⟩
  | mx hi x ps => obtain ⟨a, w, e, h, p⟩ := h; exact ⟨a, w, e, k _ _ trivial h, mo k p⟩
  | call f as rs => obtain ⟨a, w, u, e, h, p, q⟩ := h; exact ⟨a, w, u, e, k _ _ trivial h, mo k p, mo k q⟩⟩
def Src (z : Str) : Prop := z = e0 ∨ IsNm z
/-- in form -/
def SynSm : Sm → Prop
  | .skip => True
  | .sets xs => xs.length ≤ 60 ∧ (xs.map (·.1)).Nodup ∧ ∀ x ∈ xs, IsNm x.1 ∧ Src x.2.1
  | .mx _ x ps => IsNm x ∧ ps ≠ [] ∧ ps.length ≤ 60 ∧ ∀ p ∈ ps, Src p.1
  | .call f as rs => IsNm f ∧ as.length ≤ 60 ∧ rs.length ≤ 60 ∧ (∀ p ∈ as, Src p.1) ∧ rs.Nodup ∧ ∀ x ∈ rs, IsNm x
def setsOf : Sm → List Str
  | .skip => []
  | .sets xs => srt (xs.map (·.1))
  | .mx _ x _ => [x]
  | .call _ _ rs => srt rs
def partsOf : Sm → List Part
  | .skip => []
  | .sets xs => xs.map (·.2)
  | .mx _ _ ps => ps
  | .call _ as _ => as
theorem at0 {α : Type} {x : α} {l : List α} : atI (x :: l) 0 = some x := atI_nat (j := 0) rfl
theorem at1 {α : Type} {a x : α} {l : List α} : atI (a :: x :: l) 1 = some x := atI_nat (j := 1) rfl
theorem at2 {α : Type} {a b x : α} {l : List α} : atI (a :: b :: x :: l) 2 = some x := atI_nat (j := 2) rfl
theorem at3 {α : Type} {a b c x : α} {l : List α} : atI (a :: b :: c :: x :: l) 3 = some x := atI_nat (j := 3) rfl
def wordOf : Sm → Str
  | .skip => "skip"
  | .sets _ => "set"
  | .mx hi _ _ => if hi = true then "most" else "least"
  | .call _ _ _ => "call"
theorem rSm.head {H : Hp} {v : V} {s : Sm} (h : rSm H v s) : ∃ a rest, v = .ref a ∧ H a = some (.tup (.str (wordOf s) :: rest)) := by
  cases s with
  | skip => obtain ⟨a, e, h⟩ := h; exact ⟨a, _, e, h⟩
  | sets xs => obtain ⟨a, w, e, h, _⟩ := h; exact ⟨a, _, e, h⟩
  | mx hi x ps => obtain ⟨a, w, e, h, _⟩ := h; exact ⟨a, _, e, h⟩
  | call f as rs => obtain ⟨a, w, u, e, h, _⟩ := h; exact ⟨a, _, e, h⟩
theorem wo_ss (xs) : wordOf (.sets xs) ≠ "skip" := show ("set" : Str) ≠ "skip" from by decide +kernel
theorem wo_cs (f as rs) : wordOf (.call f as rs) ≠ "skip" := show ("call" : Str) ≠ "skip" from by decide +kernel
theorem wo_ct (f as rs) : wordOf (.call f as rs) ≠ "set" := show ("call" : Str) ≠ "set" from by decide +kernel
theorem wo_ci (f as rs) : ¬ wordOf (.call f as rs) ∈ (["most", "least"] : List Str) := show ¬ ("call" : Str) ∈ (["most", "least"] : List Str) from by decide +kernel
theorem wo_ms (hi x ps) : wordOf (.mx hi x ps) ≠ "skip" := by
  cases hi
  · exact show ("least" : Str) ≠ "skip" from by decide +kernel
  · exact show ("most" : Str) ≠ "skip" from by decide +kernel
theorem wo_mt (hi x ps) : wordOf (.mx hi x ps) ≠ "set" := by
  cases hi
  · exact show ("least" : Str) ≠ "set" from by decide +kernel
  · exact show ("most" : Str) ≠ "set" from by decide +kernel
theorem wo_mc (hi x ps) : wordOf (.mx hi x ps) ≠ "call" := by
  cases hi
  · exact show ("least" : Str) ≠ "call" from by decide +kernel
  · exact show ("most" : Str) ≠ "call" from by decide +kernel
theorem wo_mi (hi x ps) : wordOf (.mx hi x ps) ∈ (["most", "least"] : List Str) := by
  cases hi
  · exact show ("least" : Str) ∈ (["most", "least"] : List Str) from by decide +kernel
  · exact show ("most" : Str) ∈ (["most", "least"] : List Str) from by decide +kernel
theorem wo_sc (xs) : wordOf (.sets xs) ≠ "call" := show ("set" : Str) ≠ "call" from by decide +kernel
theorem wo_kc : wordOf .skip ≠ "call" := show ("skip" : Str) ≠ "call" from by decide +kernel
end Fp

/-! ## FpSets -/
set_option Elab.async false
set_option linter.all false
set_option maxRecDepth 100000
set_option maxHeartbeats 2000000
namespace Fp
open PySem PySem.Spec PyProof.Rows L2
/-! ### sets of texts -/
def keyZ (e : Int × Value) : Str := match e.2 with | .str k _ => k | _ => Str.empty
def GoodZ (w : World) (e : Int × Value) : Prop := ∃ k tk, e.2 = Value.str k tk ∧ e.1 = hashStr w k

/-- a set of texts -/
def SetZ (w : World) (h : Heap) (a : Addr) (S : Str → Bool) (n : Nat) : Prop :=
  ∃ o es ep t, h.get? a = some o ∧ o.ExactSet ∧ o.data = .set es ep t ∧ (∀ e ∈ es.toList, GoodZ w e) ∧ (es.toList.map keyZ).Nodup ∧ (∀ k, S k = true ↔ k ∈ es.toList.map keyZ) ∧
    es.size < scanBound ∧ t.fits es.size = true ∧ es.size = n ∧ Ris t.place.toList ∧ (w.params.followText "set-order" = true ∨ t.led = true)

section
variable {P : Program} {w : World} {h h' : Heap} {a : Addr} {S : Str → Bool} {n : Nat}

theorem SetZ.at (R : SetZ w h a S n) (k : ∀ o, h.get? a = some o → h'.get? a = some o) : SetZ w h' a S n := by
  obtain ⟨o, es, ep, t, ho, r⟩ := R
  exact ⟨o, es, ep, t, k o ho, r⟩
theorem SetZ.lt (R : SetZ w h a S n) : a < h.objs.size := by
  obtain ⟨o, es, ep, t, ho, r⟩ := R
  exact Heap.lt_size ho
theorem SetZ.congr {S' : Str → Bool} (R : SetZ w h a S n) (e : ∀ k, S' k = S k) : SetZ w h a S' n := by
  have q : S' = S := funext e
  rw [q]; exact R
theorem goodZ_elems {l : List (Int × Value)} (g : ∀ e ∈ l, GoodZ w e) : ElemsOf (strKind P w) l := fun e he => by
  obtain ⟨k, tk, h1, h2⟩ := g e he
  exact ⟨⟨k, by rw [h1]; exact strKind_is P w k tk, h2⟩, by rw [h1] <;> rfl⟩
theorem goodZ_is {e : Int × Value} (g : GoodZ w e) (k : Str) : (strKind P w).is k e.2 = true ↔ keyZ e = k := by
  obtain ⟨k0, tk, h1, _⟩ := g
  unfold keyZ
  rw [h1]
  show ((k0 == k) = true) ↔ k0 = k
  exact beq_iff_eq
theorem goodZ_mem {l : List (Int × Value)} (g : ∀ e ∈ l, GoodZ w e) (k : Str) : k ∈ l.map keyZ ↔ ∃ e ∈ l, (strKind P w).is k e.2 = true := by
  rw [List.mem_map]
  constructor
  · rintro ⟨e, he, q⟩
    exact ⟨e, he, (goodZ_is (g e he) k).2 q⟩
  · rintro ⟨e, he, q⟩
    exact ⟨e, he, (goodZ_is (g e he) k).1 q⟩
theorem SetZ.setOf (R : SetZ w h a S n) : h.SetOf (strKind P w) a S n := by
  obtain ⟨o, es, ep, t, ho, hx, hd, g, nd, hm, hb, hf, hn, _⟩ := R
  exact ⟨o, es, ep, t, ho, hx, hd, goodZ_elems g, fun k => (hm k).trans (goodZ_mem g k), hb, hf, hn⟩
end

section
variable {P : Program} {w : World} {A : Around} {E : Value → Shared → Prop} {s : Shared} {a : Addr} {S : Str → Bool} {n : Nat}

/-! ### add -/
theorem storeZ_at {h : Heap} {a : Addr} {o : Obj} {es es' : Array (Int × Value)} {ep : Nat} {t t' : SetTable} (ho : h.get? a = some o) (hd : o.data = .set es ep t) :
    (h.update a (Obj.putSet es' t')).get? a = some { o with data := .set es' (ep + 1) t' } := by
  have q := Heap.get?_update_self (Obj.putSet es' t') ho (by rw [putSet_of es' t' hd]; rfl)
  rw [putSet_of es' t' hd] at q
  exact q

theorem setZ_add_tail {g : Bool → Sem Unit} (hg : ∀ (b : Bool) (s₁ : Shared) (Q' : Unit → Shared → Prop), Q' () s₁ → wpAny (model P w) A (g b) Q' E s₁)
    {o : Obj} {es : Array (Int × Value)} {ep : Nat} {t : SetTable} (ho : s.heap.get? a = some o) (hex : o.ExactSet) (hd : o.data = .set es ep t)
    {es1 : Array (Int × Value)} {t2 : SetTable} {S' : Str → Bool} (g1 : ∀ e ∈ es1.toList, GoodZ w e) (nd1 : (es1.toList.map keyZ).Nodup) (m1 : ∀ k, S' k = true ↔ k ∈ es1.toList.map keyZ)
    (hb1 : es1.size < scanBound) (hf2 : t2.fits es1.size = true) (hr : Ris t2.place.toList) (hl : w.params.followText "set-order" = true ∨ t2.led = true) {wasDummy : Bool} {R : Option Bool → Shared → Prop}
    (hR : ∀ h', Heap.SameBut a s.heap h' → SetZ w h' a S' es1.size → R (some true) { s with heap := h' }) :
    wpAny (model P w) A (do
        storeSet a es1 t2
        if (!wasDummy && t2.tooFull) = true then do
            g (relayAll t2 es1 (SetTable.grown es1.size)).2.2
            storeSet a (relayAll t2 es1 (SetTable.grown es1.size)).1 (relayAll t2 es1 (SetTable.grown es1.size)).2.1
            pure (some true)
          else pure (some true)) R E s := by
  refine wpAny_bind (wpAny_storeSet_of ho hd ?_ (fits_of_scanBound hb1))
  have ho1 := storeZ_at (es' := es1) (t' := t2) ho hd
  have sb1 := Heap.SameBut.update s.heap a (Obj.putSet es1 t2)
  split
  · have pm := relayAll_perm t2 es1 (SetTable.grown es1.size)
    have hf3 := relayAll_fits t2 es1 (SetTable.grown es1.size)
    have hr3 := relayAll_ris t2 es1 (SetTable.grown es1.size)
    have hl3 := relayAll_led t2 es1 (SetTable.grown es1.size)
    generalize relayAll t2 es1 (SetTable.grown es1.size) = Z at pm hf3 hr3 hl3 ⊢
    obtain ⟨es2, t3, gave⟩ := Z
    dsimp only at pm hf3 hr3 hl3 ⊢
    have hsz : es2.size = es1.size := by rw [← Array.length_toList, pm.length_eq, Array.length_toList]
    have hb2 : es2.size < scanBound := by rw [hsz]; exact hb1
    refine wpAny_bind (hg _ _ _ ?_)
    refine wpAny_bind (wpAny_storeSet_of ho1 rfl ?_ (fits_of_scanBound hb2))
    have ho2 := storeZ_at (es' := es2) (t' := t3) ho1 rfl
    refine wpAny_pure (hR _ (sb1.trans (Heap.SameBut.update _ a _)) ?_)
    exact ⟨_, es2, _, t3, ho2, hex, rfl, fun e he => g1 e (pm.mem_iff.mp he), (pm.map keyZ).nodup_iff.mpr nd1, fun k => (m1 k).trans (pm.map keyZ).mem_iff.symm, hb2, hf3, hsz, hr3,
      hl.imp id fun z => by rw [hl3]; exact z⟩
  · exact wpAny_pure (hR _ sb1 ⟨_, es1, _, t2, ho1, hex, rfl, g1, nd1, m1, hb1, hf2, rfl, hr, hl⟩)

theorem setZ_add_hashed {k : Str} {tk : Tok} {Q : Bool → Shared → Prop} (R : SetZ w s.heap a S n) (room : n + 1 < scanBound)
    (hQ : ∀ h', Heap.SameBut a s.heap h' → SetZ w h' a (fun j => S j || decide (j = k)) (if S k = true then n else n + 1) → Q (!S k) { s with heap := h' }) :
    wpAny (model P w) A (setAddHashed a (.str k tk) ((strKind P w).hash k)) Q E s := by
  obtain ⟨o, es, ep, t, ho, hex, hd, g, nd, hm, hb, hf, hn, hr, hl⟩ := R
  have hkey : (strKind P w).is k (.str k tk) = true := strKind_is P w k tk
  have hsc : (Value.str k tk).scannable = true := rfl
  have hel : ElemsOf (strKind P w) es.toList := goodZ_elems g
  unfold setAddHashed setAddHashedIn
  refine wpAny_holding (wpAny_bind (wpAny_setState_of ho hd hf ?_))
  dsimp only
  rw [byScan_of hsc hb hel]
  simp only [↓reduceIte]
  unfold setAddByScan
  refine wpAny_bind ?_
  refine wpAny_bind (wpAny_rule ?_)
  refine wpAny_bind (wpAny_setScan_of hkey ho hd hf hel ?_)
  cases hfi : List.findIdx? (fun e => (strKind P w).is k e.2) es.toList with
  | some j =>
    dsimp only
    obtain ⟨hj, pj, _⟩ := List.findIdx?_eq_some_iff_getElem.mp hfi
    have hSk : S k = true := (hm k).2 ((goodZ_mem (P := P) (w := w) g k).2 ⟨es.toList[j], List.getElem_mem hj, pj⟩)
    refine wpAny_pure (wpAny_pure ?_)
    have q := hQ s.heap (Heap.SameBut.refl a s.heap) ⟨o, es, ep, t, ho, hex, hd, g, nd, fun i => by
      rw [Bool.or_eq_true, decide_eq_true_eq, ← hm i]
      exact ⟨fun z => z.elim id (fun e => e ▸ hSk), .inl⟩, hb, hf, by rw [if_pos hSk]; exact hn, hr, hl⟩
    rw [hSk] at q
    exact q
  | none =>
    dsimp only
    have hnk : k ∉ es.toList.map keyZ := fun z => by
      obtain ⟨e, he, q⟩ := (goodZ_mem (P := P) (w := w) g k).1 z
      have c := List.findIdx?_eq_none_iff.mp hfi e he
      rw [q] at c
      cases c
    have hSk : S k = false := by
      cases q : S k with
      | false => rfl
      | true => exact absurd ((hm k).1 q) hnk
    have hgw : ∀ (b : Bool) {s₁ : Shared} {Q' : Unit → Shared → Prop}, Q' () s₁ → wpAny (model P w) A (match b with | true => rule "set.scan.the-table-gave-way" | false => pure ()) Q' E s₁ :=
      fun b s₁ Q' q => by cases b <;> first | exact wpAny_pure q | exact wpAny_rule q
    have pm := layNew_perm t es ((strKind P w).hash k) (.str k tk)
    have hf1 := layNew_fits t es ((strKind P w).hash k) (.str k tk)
    have hr1 := layNew_ris t es ((strKind P w).hash k) (.str k tk) hr
    have hl1 := layNew_led t es ((strKind P w).hash k) (.str k tk)
    generalize layNew t es ((strKind P w).hash k) (.str k tk) = Z at pm hf1 hr1 hl1 ⊢
    obtain ⟨es1, t1, wasDummy, gave⟩ := Z
    dsimp only at pm hf1 hr1 hl1 ⊢
    rw [Array.toList_push] at pm
    have pc : es1.toList.Perm (((strKind P w).hash k, Value.str k tk) :: es.toList) := pm.trans (List.perm_append_singleton _ _)
    have pk : (es1.toList.map keyZ).Perm (k :: es.toList.map keyZ) := pc.map keyZ
    have g1 : ∀ e ∈ es1.toList, GoodZ w e := fun e he => by
      rcases List.mem_cons.mp (pc.mem_iff.mp he) with z | z
      · rw [z]; exact ⟨k, tk, rfl, rfl⟩
      · exact g e z
    have nd1 : (es1.toList.map keyZ).Nodup := pk.nodup_iff.mpr (List.nodup_cons.mpr ⟨hnk, nd⟩)
    have m1 : ∀ i, (S i || decide (i = k)) = true ↔ i ∈ es1.toList.map keyZ := fun i => by
      rw [Bool.or_eq_true, decide_eq_true_eq, hm i, pk.mem_iff, List.mem_cons]
      exact Or.comm
    have hsz : es1.size = n + 1 := by rw [← Array.length_toList, pc.length_eq, List.length_cons, Array.length_toList, hn]
    have hb1 : es1.size < scanBound := by rw [hsz]; exact room
    have hled : w.params.followText "set-order" = true ∨ t1.led = true := hl.imp id fun z => by rw [hl1]; exact z
    have fin : ∀ h', Heap.SameBut a s.heap h' → SetZ w h' a (fun j => S j || decide (j = k)) es1.size → Q true { s with heap := h' } := fun h' sb r => by
      have q := hQ h' sb
      rw [hSk] at q
      rw [hsz] at r
      exact q r
    refine wpAny_bind (hgw _ ?_)
    split
    · refine wpAny_bind ?_
      rw [hashByValue_scannable 8 hsc]
      refine wpAny_pure ?_
      refine setZ_add_tail ?_ ho hex hd g1 nd1 m1 hb1 ?_ ?_ ?_ ?_
      · intro b s₁ Q' q; cases b <;> first | exact wpAny_pure q | exact wpAny_rule q
      · first | (split <;> first | exact hf1 | exact SetTable.fits_plain_off hf1) | exact hf1
      · first | (split <;> exact hr1) | exact hr1
      · first | (split <;> exact hled) | exact hled
      · intro h' sb r; dsimp only; exact wpAny_pure (fin h' sb r)
    · refine wpAny_bind (wpAny_pure ?_)
      simp only [↓reduceIte]
      refine setZ_add_tail ?_ ho hex hd g1 nd1 m1 hb1 hf1 hr1 hled ?_
      · intro b s₁ Q' q; cases b <;> first | exact wpAny_pure q | exact wpAny_rule q
      · intro h' sb r; dsimp only; exact wpAny_pure (fin h' sb r)

/-! ### set(xs) -/
theorem setZ_one (a1 : Value) {Q₁ : Value → Shared → Prop}
    (h : Q₁ (.ref s.heap.objs.size) { s with heap := s.heap.push { cls := .type "set", dict := none, data := .set #[] 0 (.fresh 0 0 (!w.params.followText "set-order")) } }) :
    codeAny (model P w) A (.call (.builtin "set.__new__") ⟨[.type "set", a1], []⟩) (wants Q₁ E) s := by
  refine codeAny_of_tree ?_
  show wpAny _ A.in1 (do checkBuiltinCall "set.__new__" ⟨[.type "set", a1], []⟩; again (.builtin "set.__new__" ⟨[.type "set", a1], []⟩)) _ _ s
  refine wpAny_bind (wpAny_of_eq (F.newCall_set_1 a1) (wpAny_pure ⟨plainId_quiet F.plain_set_new _, codeAny_builtin F.entry_set_new ?_⟩))
  rw [Around.under_plainId F.plain_set_new _]
  unfold Builtin.«set.__new__» Builtin.Frozenset.newClass
  have hsub := sub_set_self
  obtain ⟨hp, g, d, tk, os⟩ := s
  dsimp only
  wp_walk
  refine wpAny_askSetting (wpAny_pure ?_)
  dsimp only
  simp only [newObj]
  refine wpAny_bind (wpAny_alloc (wpAny_pure ?_))
  exact wpAny_pure h
theorem setZ_fresh {h : Heap} (w : World) : SetZ w (h.push { cls := .type "set", dict := none, data := .set #[] 0 (.fresh 0 0 (!w.params.followText "set-order")) }) h.objs.size (fun _ => false) 0 :=
  ⟨_, #[], 0, _, Heap.get?_push_size _ rfl, ⟨rfl, rfl, rfl⟩, rfl, (fun e he => by simp at he), (by simp), (fun k => by simp), (by decide), (by rfl), rfl, List.Pairwise.nil, by
    show _ ∨ (!w.params.followText "set-order") = true
    cases w.params.followText "set-order"
    · exact .inr rfl
    · exact .inl rfl⟩
end
/-- the first i of xs are in the set at a -/
def SetUp (w : World) (h : Heap) (a : Addr) (xs : List Str) (i : Nat) : Prop := ∃ n, n ≤ i ∧ ((xs.take i).Nodup → n = i) ∧ SetZ w h a (fun k => decide (k ∈ xs.take i)) n
theorem SetUp.at {w : World} {h h' : Heap} {a : Addr} {xs : List Str} {i : Nat} (x : SetUp w h a xs i) (k : ∀ o, h.get? a = some o → h'.get? a = some o) : SetUp w h' a xs i := let ⟨n, h1, h2, R⟩ := x; ⟨n, h1, h2, R.at k⟩
section
variable {prog : Program} {w : World} {A : Around} {R : Result → Shared → Prop} {I : Addr} {fp wr : List Addr} {G : Array GenState → Array GenState → Prop} {n : Nat} {P : Nat → Value → Prop} {St : Nat → Shared → Prop}
theorem loopZ (W : WalksS prog w A.in1 I fp wr G n P St) (S : Addr) (hSf : S ∉ fp) (xs : List Str) (hsz : xs.length = n) (hn1 : n ≤ 1000)
    (hval : ∀ i v, P i v → ∃ t, v = .str (xs.getD i Str.empty) t) :
    ∀ (k i : Nat) (s : Shared), n - i = k → i ≤ n → St i s → SetUp w s.heap S xs i →
      (∀ s', Moved (S :: wr) G s s' → SetUp w s'.heap S xs n → R (.ok (.ret .none)) s') →
      codeAny (model prog w) A (.builtin "set.update.loop" ⟨[.ref S, .ref I], []⟩) R s := by
  have hSw : S ∉ wr := fun h => hSf (W.sub _ h)
  have hsub : ∀ b ∈ wr, b ∈ S :: wr := fun b hb => List.mem_cons_of_mem _ hb
  intro k
  induction k with
  | zero =>
    intro i s hk hi hst hS hR
    have hin : i = n := by omega
    subst hin
    refine codeAny_builtin PyProof.Rows.F.entry_set_update_loop ?_
    rw [Around.under_plainId PyProof.Rows.F.plain_set_update_loop _]
    show wpAny _ A.in1 (pyNext (.ref I) >>= _) _ _ s
    refine wpAny_bind (W.done s _ _ hst fun s' hm => ?_)
    show wpAny _ A.in1 (ret Value.none) _ _ s'
    exact wpAny_pure (hR s' (hm.mono hsub) (hS.at fun o ho => hm.heap S _ hSw ho))
  | succ k ih =>
    intro i s hk hi hst hS hR
    have hlt : i < n := by omega
    refine codeAny_builtin PyProof.Rows.F.entry_set_update_loop ?_
    rw [Around.under_plainId PyProof.Rows.F.plain_set_update_loop _]
    show wpAny _ A.in1 (pyNext (.ref I) >>= _) _ _ s
    refine wpAny_bind (W.item i s _ _ hlt hst fun v s' hP hst' hm => ?_)
    obtain ⟨t, rfl⟩ := hval i v hP
    obtain ⟨n0, hn0, hnd, hS'⟩ := hS.at (h' := s'.heap) fun o ho => hm.heap S _ hSw ho
    have hix : xs[i]? = some (xs.getD i Str.empty) := by
      rw [List.getD_eq_getElem?_getD, List.getElem?_eq_getElem (by omega : i < xs.length)]
      rfl
    have etk : xs.take (i + 1) = xs.take i ++ [xs.getD i Str.empty] := (take_at hix).1
    show wpAny _ A.in1 (holding [Value.str (xs.getD i Str.empty) t] (setAdd S (.str (xs.getD i Str.empty) t)) >>= _) _ _ s'
    refine wpAny_bind (wpAny_holding ?_)
    unfold setAdd
    refine wpAny_holding ?_
    refine wpAny_bind ((PySem.strKind prog w).pyHash (k := xs.getD i Str.empty) (strKind_is _ _ _ _) ?_)
    refine setZ_add_hashed (s := { s' with toks := s'.toks + 1 }) hS' (by unfold scanBound; omega) fun h' hsb hS2 => ?_
    have hSi : SetUp w h' S xs (i + 1) := by
      refine ⟨_, ?_, fun nd => ?_, hS2.congr fun k' => ?_⟩
      · split <;> omega
      · rw [etk] at nd
        obtain ⟨nd1, _, nd3⟩ := List.nodup_append.mp nd
        have hne : ¬ xs.getD i Str.empty ∈ xs.take i := fun z => nd3 _ z _ (List.mem_singleton.mpr rfl) rfl
        rw [if_neg (by simpa using hne), hnd nd1]
      · rw [etk]
        by_cases e1 : k' ∈ xs.take i
        · simp [e1]
        · simp [e1]
    refine wpAny_pure ⟨plainId_quiet PyProof.Rows.F.plain_set_update_loop _, ih (i + 1) _ (by omega) hlt (W.frame _ s' _ _ hst' (Nat.le_succ _) fun b hb o e => ?_) hSi fun s'' hm'' hS'' => ?_⟩
    · rw [hsb.2 b (fun h : b = S => hSf (by rw [← h]; exact hb))]; exact e
    · refine hR s'' (Moved.trans W.gtrans ((hm.mono hsub).then_heap (Nat.le_succ _) fun b o hb e => ?_) hm'') hS''
      rw [hsb.2 b (fun h : b = S => hb (by rw [h]; exact List.mem_cons_self))]; exact e
end
section
variable {prog : Program} {w : World} {A : Around} {E : Value → Shared → Prop} {s : Shared}
set_option maxHeartbeats 3200000 in
theorem setZ_list {l : Addr} {items : Array Value} {xs : List Str} {Q : Value → Shared → Prop}
    (hh : A.handled = none) (hl : s.heap.IsList l items) (hi : PyProof.Rows.StrsAre items.toList xs) (hn1 : xs.length ≤ 1000)
    (h : ∀ (h' : Heap) (tk : Nat), SetUp w h' s.heap.objs.size xs items.size →
      (∀ b o, b < s.heap.objs.size → s.heap.get? b = some o → h'.get? b = some o) → Q (.ref s.heap.objs.size) { s with heap := h', toks := tk }) :
    wpAny (model prog w) A (call (.type "set") [.ref l]) Q E s := by
  obtain ⟨c, tl, hmro⟩ := PySem.F.called_set.mro
  have hmade := PySem.F.called_set.made
  have hsub := PySem.F.called_set.sub
  refine wpAny_call (codeAny_of_tree ?_)
  show wpAny _ _ (callAny (.type "set") _) _ _ _
  refine wpAny_pure ⟨Code.quiet_builtin _ (by decide +kernel), codeAny_builtin PySem.F.entry_type_call ?_⟩
  rw [Around.under_plain (weight_type_call_type "set" [.ref l] []) rfl]
  have h1 := PySem.F.called_set.notType
  have h2 := PySem.F.called_set.canCreate
  have hct := PySem.F.typeCall_set_1 (.ref l)
  repeat (any_goals (first | assumption | wp_step))

  refine codeAny_mono (setZ_one (.ref l) (E := E) (Q₁ := fun obj s₁ => obj = .ref s.heap.objs.size ∧ s₁ = { s with heap := s.heap.push { cls := .type "set", dict := none, data := .set #[] 0 (.fresh 0 0 (!w.params.followText "set-order")) } }) ⟨rfl, rfl⟩) fun r s₁ hr => ?_
  cases r with
  | error e => exact hr
  | ok fl =>
    cases fl with
    | ret obj =>
      obtain ⟨rfl, rfl⟩ := hr
      have hS : (s.heap.push { cls := .type "set", dict := none, data := .set #[] 0 (.fresh 0 0 (!w.params.followText "set-order")) }).get? s.heap.objs.size = some { cls := .type "set", dict := none, data := .set #[] 0 (.fresh 0 0 (!w.params.followText "set-order")) } := Heap.get?_push_size _ rfl
      have hT : Shared.TypeIs { s with heap := s.heap.push { cls := .type "set", dict := none, data := .set #[] 0 (.fresh 0 0 (!w.params.followText "set-order")) } } (.ref s.heap.objs.size) "set" := ⟨_, hS, rfl⟩
      have hli := PySem.F.called_set.init.lookup
      have hbi := PySem.F.called_set.init.bind (.ref s.heap.objs.size)
      repeat (any_goals (first | assumption | wp_step))

      refine codeAny_mono (codeAny_call_builtin (R := wants (fun r s₂ => r = .none ∧ ∃ h' tk, s₂ = { s with heap := h', toks := tk } ∧
          SetUp w h' s.heap.objs.size xs items.size ∧
          (∀ b o, b < s.heap.objs.size → s.heap.get? b = some o → h'.get? b = some o)) E) PySem.F.called_set.init.plain PySem.F.entry_set_init (check_set_init_1 hT ?_)) fun r₂ s₂ hr₂ => ?_
      · obtain ⟨ol, hol, hcl, nl, hdl⟩ := hl
        obtain ⟨ocls, odict, odata, oslots⟩ := ol
        simp only at hcl hdl
        subst hcl; subst hdl
        have hol' : (s.heap.push { cls := .type "set", dict := none, data := .set #[] 0 (.fresh 0 0 (!w.params.followText "set-order")) }).get? l = some { cls := .type "list", dict := odict, data := .seq items nl, slots := oslots } := Heap.get?_push_of_some _ hol
        have hsls := PySem.F.sub_list_set
        have hslf := PySem.F.sub_list_frozenset
        have hne : (Value.type "list" == Value.type "dict") = false := by decide
        have hl1 : (s.heap.push { cls := .type "set", dict := none, data := .set #[] 0 (.fresh 0 0 (!w.params.followText "set-order")) }).IsList l items := ⟨_, hol', rfl, nl, rfl⟩
        unfold Builtin.«set.__init__» noKeywords Builtin.Frozenset.updateFrom
        generalize hPI : pyIter = PI
        wp_walk
        subst hPI

        refine wpAny_pyIter_list hl1 ?_
        refine wpAny_bind (wpAny_runValue ?_)
        have hlS : l < s.heap.objs.size := Heap.lt_size hol
        have hh3 : A.in1.in1.in1.handled = none := by simp [hh]
        have hneI : l ≠ (s.heap.push { cls := .type "set", dict := none, data := .set #[] 0 (.fresh 0 0 (!w.params.followText "set-order")) }).objs.size := by
          rw [Heap.size_push]; exact Nat.ne_of_lt (Nat.lt_succ_of_lt hlS)
        have hSf : s.heap.objs.size ∉ [(s.heap.push { cls := .type "set", dict := none, data := .set #[] 0 (.fresh 0 0 (!w.params.followText "set-order")) }).objs.size, l] := by
          rw [Heap.size_push]; simp only [List.mem_cons, List.mem_singleton, List.not_mem_nil, or_false, not_or]
          exact ⟨Nat.ne_of_lt (Nat.lt_succ_self _), Nat.ne_of_gt hlS⟩
        have hsz : xs.length = items.size := by rw [← StrsAre.len_eq hi, Array.length_toList]
        have hval : ∀ (i : Nat) (v : Value), items[i]? = some v → ∃ t, v = .str (xs.getD i Str.empty) t := fun i v hv => SS.strs_at hi i v (by rw [Array.getElem?_toList]; exact hv)
        refine loopZ ((Walks.list hh3 _ l hneI items).toS) s.heap.objs.size
          hSf xs hsz (by rw [← hsz]; exact hn1) hval (items.size - 0) 0 _ (by omega) (Nat.zero_le _)
          ⟨⟨_, Heap.get?_push_size _ rfl, rfl, rfl⟩, (hl1.push _)⟩ ?hS0 ?hR
        case hS0 =>
          have hget : ((s.heap.push { cls := .type "set", dict := none, data := .set #[] 0 (.fresh 0 0 (!w.params.followText "set-order")) }).push { cls := .type "list_iterator", data := .fields #[.ref l, .int 0 0] }).get? s.heap.objs.size
              = some { cls := .type "set", dict := none, data := .set #[] 0 (.fresh 0 0 (!w.params.followText "set-order")) } := Heap.get?_push_of_some _ hS
          exact ⟨0, Nat.le_refl _, fun _ => rfl, ((setZ_fresh (h := s.heap) w).at fun o q => Heap.get?_push_of_some _ q).congr fun k => by simp⟩
        case hR =>
          intro s' hm hS'
          obtain ⟨h', g', d', tk', os'⟩ := s'
          have eg : g' = s.gens := hm.gens
          have ed : d' = s.drawn := hm.drawn
          have eo : os' = s.os := hm.os
          subst eg; subst ed; subst eo
          show wpAny _ _ _ _ _ _
          refine wpAny_pure ?_
          show wpAny _ _ (ret Value.none) _ _ _
          refine wpAny_pure ⟨rfl, h', tk', rfl, hS', fun b o hb e => ?_⟩
          have hb1 : b ≠ s.heap.objs.size := Nat.ne_of_lt hb
          have hb2 : b ≠ (s.heap.push { cls := .type "set", dict := none, data := .set #[] 0 (.fresh 0 0 (!w.params.followText "set-order")) }).objs.size := by
            rw [Heap.size_push]; exact Nat.ne_of_lt (Nat.lt_succ_of_lt hb)
          exact hm.heap b o (by simp only [List.mem_cons, List.mem_singleton, List.not_mem_nil, or_false, not_or]; exact ⟨hb1, hb2⟩) (Heap.get?_push_of_some _ (Heap.get?_push_of_some _ e))

      · cases r₂ with
        | error e => exact hr₂
        | ok fl₂ =>
          cases fl₂ with
          | ret r =>
            obtain ⟨rfl, h', tk, rfl, hS', hk'⟩ := hr₂
            repeat (any_goals (first | assumption | wp_step))
            exact h _ _ hS' hk'
          | _ => exact hr₂.elim
    | _ => exact hr.elim


set_option maxHeartbeats 3200000 in
theorem setZ_tuple {l : Addr} {items : Array Value} {xs : List Str} {Q : Value → Shared → Prop}
    (hh : A.handled = none) (hl : s.heap.IsTuple l items) (hi : PyProof.Rows.StrsAre items.toList xs) (hn1 : xs.length ≤ 1000)
    (h : ∀ (h' : Heap) (tk : Nat), SetUp w h' s.heap.objs.size xs items.size →
      (∀ b o, b < s.heap.objs.size → s.heap.get? b = some o → h'.get? b = some o) → Q (.ref s.heap.objs.size) { s with heap := h', toks := tk }) :
    wpAny (model prog w) A (call (.type "set") [.ref l]) Q E s := by
  obtain ⟨c, tl, hmro⟩ := PySem.F.called_set.mro
  have hmade := PySem.F.called_set.made
  have hsub := PySem.F.called_set.sub
  refine wpAny_call (codeAny_of_tree ?_)
  show wpAny _ _ (callAny (.type "set") _) _ _ _
  refine wpAny_pure ⟨Code.quiet_builtin _ (by decide +kernel), codeAny_builtin PySem.F.entry_type_call ?_⟩
  rw [Around.under_plain (weight_type_call_type "set" [.ref l] []) rfl]
  have h1 := PySem.F.called_set.notType
  have h2 := PySem.F.called_set.canCreate
  have hct := PySem.F.typeCall_set_1 (.ref l)
  repeat (any_goals (first | assumption | wp_step))

  refine codeAny_mono (setZ_one (.ref l) (E := E) (Q₁ := fun obj s₁ => obj = .ref s.heap.objs.size ∧ s₁ = { s with heap := s.heap.push { cls := .type "set", dict := none, data := .set #[] 0 (.fresh 0 0 (!w.params.followText "set-order")) } }) ⟨rfl, rfl⟩) fun r s₁ hr => ?_
  cases r with
  | error e => exact hr
  | ok fl =>
    cases fl with
    | ret obj =>
      obtain ⟨rfl, rfl⟩ := hr
      have hS : (s.heap.push { cls := .type "set", dict := none, data := .set #[] 0 (.fresh 0 0 (!w.params.followText "set-order")) }).get? s.heap.objs.size = some { cls := .type "set", dict := none, data := .set #[] 0 (.fresh 0 0 (!w.params.followText "set-order")) } := Heap.get?_push_size _ rfl
      have hT : Shared.TypeIs { s with heap := s.heap.push { cls := .type "set", dict := none, data := .set #[] 0 (.fresh 0 0 (!w.params.followText "set-order")) } } (.ref s.heap.objs.size) "set" := ⟨_, hS, rfl⟩
      have hli := PySem.F.called_set.init.lookup
      have hbi := PySem.F.called_set.init.bind (.ref s.heap.objs.size)
      repeat (any_goals (first | assumption | wp_step))

      refine codeAny_mono (codeAny_call_builtin (R := wants (fun r s₂ => r = .none ∧ ∃ h' tk, s₂ = { s with heap := h', toks := tk } ∧
          SetUp w h' s.heap.objs.size xs items.size ∧
          (∀ b o, b < s.heap.objs.size → s.heap.get? b = some o → h'.get? b = some o)) E) PySem.F.called_set.init.plain PySem.F.entry_set_init (check_set_init_1 hT ?_)) fun r₂ s₂ hr₂ => ?_
      · obtain ⟨ol, hol, hcl, nl, hdl⟩ := hl
        obtain ⟨ocls, odict, odata, oslots⟩ := ol
        simp only at hcl hdl
        subst hcl; subst hdl
        have hol' : (s.heap.push { cls := .type "set", dict := none, data := .set #[] 0 (.fresh 0 0 (!w.params.followText "set-order")) }).get? l = some { cls := .type "tuple", dict := odict, data := .seq items nl, slots := oslots } := Heap.get?_push_of_some _ hol
        have hsls := PySem.F.sub_tuple_set
        have hslf := PySem.F.sub_tuple_frozenset
        have hne : (Value.type "tuple" == Value.type "dict") = false := by decide
        have hl1 : (s.heap.push { cls := .type "set", dict := none, data := .set #[] 0 (.fresh 0 0 (!w.params.followText "set-order")) }).IsTuple l items := ⟨_, hol', rfl, nl, rfl⟩
        unfold Builtin.«set.__init__» noKeywords Builtin.Frozenset.updateFrom
        generalize hPI : pyIter = PI
        wp_walk
        subst hPI

        refine wpAny_pyIter_tuple hl1 ?_
        refine wpAny_bind (wpAny_runValue ?_)
        have hlS : l < s.heap.objs.size := Heap.lt_size hol
        have hh3 : A.in1.in1.in1.handled = none := by simp [hh]
        have hneI : l ≠ (s.heap.push { cls := .type "set", dict := none, data := .set #[] 0 (.fresh 0 0 (!w.params.followText "set-order")) }).objs.size := by
          rw [Heap.size_push]; exact Nat.ne_of_lt (Nat.lt_succ_of_lt hlS)
        have hSf : s.heap.objs.size ∉ [(s.heap.push { cls := .type "set", dict := none, data := .set #[] 0 (.fresh 0 0 (!w.params.followText "set-order")) }).objs.size, l] := by
          rw [Heap.size_push]; simp only [List.mem_cons, List.mem_singleton, List.not_mem_nil, or_false, not_or]
          exact ⟨Nat.ne_of_lt (Nat.lt_succ_self _), Nat.ne_of_gt hlS⟩
        have hsz : xs.length = items.size := by rw [← StrsAre.len_eq hi, Array.length_toList]
        have hval : ∀ (i : Nat) (v : Value), items[i]? = some v → ∃ t, v = .str (xs.getD i Str.empty) t := fun i v hv => SS.strs_at hi i v (by rw [Array.getElem?_toList]; exact hv)
        refine loopZ ((Walks.tuple hh3 _ l hneI items).toS) s.heap.objs.size
          hSf xs hsz (by rw [← hsz]; exact hn1) hval (items.size - 0) 0 _ (by omega) (Nat.zero_le _)
          ⟨⟨_, Heap.get?_push_size _ rfl, rfl, rfl⟩, (hl1.push _)⟩ ?hS0 ?hR
        case hS0 =>
          have hget : ((s.heap.push { cls := .type "set", dict := none, data := .set #[] 0 (.fresh 0 0 (!w.params.followText "set-order")) }).push { cls := .type "tuple_iterator", data := .fields #[.ref l, .int 0 0] }).get? s.heap.objs.size
              = some { cls := .type "set", dict := none, data := .set #[] 0 (.fresh 0 0 (!w.params.followText "set-order")) } := Heap.get?_push_of_some _ hS
          exact ⟨0, Nat.le_refl _, fun _ => rfl, ((setZ_fresh (h := s.heap) w).at fun o q => Heap.get?_push_of_some _ q).congr fun k => by simp⟩
        case hR =>
          intro s' hm hS'
          obtain ⟨h', g', d', tk', os'⟩ := s'
          have eg : g' = s.gens := hm.gens
          have ed : d' = s.drawn := hm.drawn
          have eo : os' = s.os := hm.os
          subst eg; subst ed; subst eo
          show wpAny _ _ _ _ _ _
          refine wpAny_pure ?_
          show wpAny _ _ (ret Value.none) _ _ _
          refine wpAny_pure ⟨rfl, h', tk', rfl, hS', fun b o hb e => ?_⟩
          have hb1 : b ≠ s.heap.objs.size := Nat.ne_of_lt hb
          have hb2 : b ≠ (s.heap.push { cls := .type "set", dict := none, data := .set #[] 0 (.fresh 0 0 (!w.params.followText "set-order")) }).objs.size := by
            rw [Heap.size_push]; exact Nat.ne_of_lt (Nat.lt_succ_of_lt hb)
          exact hm.heap b o (by simp only [List.mem_cons, List.mem_singleton, List.not_mem_nil, or_false, not_or]; exact ⟨hb1, hb2⟩) (Heap.get?_push_of_some _ (Heap.get?_push_of_some _ e))

      · cases r₂ with
        | error e => exact hr₂
        | ok fl₂ =>
          cases fl₂ with
          | ret r =>
            obtain ⟨rfl, h', tk, rfl, hS', hk'⟩ := hr₂
            repeat (any_goals (first | assumption | wp_step))
            exact h _ _ hS' hk'
          | _ => exact hr₂.elim
    | _ => exact hr.elim


end
end Fp

/-! ## FpSetR -/
set_option Elab.async false
set_option linter.all false
set_option maxRecDepth 100000
set_option maxHeartbeats 2000000
namespace Fp
open PySem PySem.Spec PyProof.Rows L2
/-! ### the rules -/
def SetZO (w : World) (a : Addr) (xs : List Str) : HO := .ext fun h => SetUp w h a xs xs.length
theorem setZO_new {w : World} {P : Program} {H : Hp} {h : Heap} {a : Addr} {xs : List Str} (R : SetUp w h a xs xs.length) : ObjOk P w H h a (SetZO w a xs) := by
  refine ⟨R, ?_, fun h1 h2 q k => q.at k⟩
  obtain ⟨n, _, _, o, es, ep, t, ho, _⟩ := R
  exact ⟨o, ho⟩
theorem strs_zip : ∀ {ys : List Str} {us : List Value}, Vals (ys.map V.str) us → StrsAre us ys
  | [], _, .nil => .nil
  | y :: ys, _, .cons r t => by
    obtain ⟨k, rfl⟩ := r
    exact .cons y k (strs_zip t)
section
variable {X : Cx}
/-- set(xs), xs a list or a tuple of texts -/
def rSetZ (w : World) (K : PySem.W.Frag) : List V → Hp → VK → Prop := fun vs H Q => ∃ (a : Addr) (xs : List Str), vs = [.ref a] ∧ (SqL K H a (xs.map V.str) ∨ SqT K H a (xs.map V.str)) ∧ xs.length ≤ 1000 ∧ ∀ p, H p = none → Q (.ref p) (upd H p (SetZO w p xs))
theorem cSetZ (w : World) (K : PySem.W.Frag) (hK : X.K = K) (hw : X.w = w) (hc : X.calm = true) : CallR X (.type "set") (rSetZ w K) := by
  subst hK
  subst hw
  intro pins s σ H vs us Q I r h
  obtain ⟨a, xs, rfl, hq, hl, q⟩ := h
  rw [Vals.ref1 r]
  have fin : ∀ (its : List Value), Vals (xs.map V.str) its → ∀ (h' : Heap) (tk : Nat), SetUp X.w h' s.heap.objs.size xs its.toArray.size → (∀ b o, b < s.heap.objs.size → s.heap.get? b = some o → h'.get? b = some o) →
      EP X pins σ Q (.ref s.heap.objs.size) { s with heap := h', toks := tk } := fun its r h' tk hS hk => by
    have hl : its.toArray.size = xs.length := by rw [List.size_toArray, ← r.length, List.length_map]
    rw [hl] at hS
    have k : ∀ b o, s.heap.get? b = some o → h'.get? b = some o := fun b o e => hk b o (Heap.lt_size e) e
    exact ⟨.ref s.heap.objs.size, _, I.laid (t' := tk) k (Nat.le_refl _) (setZO_new hS), rfl, q _ (I.hok.fresh (Nat.le_refl _))⟩
  rcases hq with hq | hq
  · obtain ⟨its, r, pl, hz⟩ := I.list hq
    exact setZ_list (I.ok.hd hc) pl.isList (by simpa using strs_zip r) hl fun h' tk hS hk => fin its r h' tk hS hk
  · obtain ⟨its, r, pl, hz⟩ := I.tuple hq
    exact setZ_tuple (I.ok.hd hc) pl (by simpa using strs_zip r) hl fun h' tk hS hk => fin its r h' tk hS hk
/-- len(s), nothing twice -/
def rLenZ (w : World) : List V → Hp → VK → Prop := fun vs H Q => ∃ (a : Addr) (xs : List Str), vs = [.ref a] ∧ H a = some (SetZO w a xs) ∧ xs.Nodup ∧ xs.length ≤ 1000 ∧ Q (.int xs.length) H
theorem cLenZ (w : World) (hw : X.w = w) : CallR X (.builtin "len") (rLenZ w) := by
  subst hw
  intro pins s σ H vs us Q I r h
  obtain ⟨a, xs, rfl, ha, nd, hl, q⟩ := h
  rw [Vals.ref1 r]
  obtain ⟨n, _, hn, R⟩ := (I.hok a _ ha).1
  obtain ⟨o, es, ep, t, ho, hex, hd, _, _, _, _, hf, hz, _⟩ := R
  have e : n = xs.length := hn (by rw [List.take_length]; exact nd)
  refine call_len_set ho hex hd hf (by rw [hz, e]; omega) ⟨.int xs.length, H, I.tok _, ⟨_, by rw [hz, e]⟩, q⟩
end
/-! ### sorted of texts, gathered -/
theorem strs_perm {us : List Value} {zs : List Str} (h : StrsAre us zs) {vs : List Value} (p : vs.Perm us) : ∃ ys, StrsAre vs ys ∧ ys.Perm zs := by
  have str : ∀ {us : List Value} {zs : List Str}, StrsAre us zs → (∀ v ∈ us, ∃ k t, v = Value.str k t) ∧ zs = us.map fun v => match v with | .str k _ => k | _ => Str.empty := by
    intro us zs h
    induction h with
    | nil => exact ⟨(fun _ z => nomatch z), rfl⟩
    | cons x t h ih =>
      refine ⟨fun v hv => ?_, by rw [List.map_cons, ← ih.2]⟩
      rcases List.mem_cons.mp hv with e | hv
      · exact ⟨x, t, e⟩
      · exact ih.1 v hv
  have back : ∀ vs : List Value, (∀ v ∈ vs, ∃ k t, v = Value.str k t) → StrsAre vs (vs.map fun v => match v with | .str k _ => k | _ => Str.empty) := by
    intro vs
    induction vs with
    | nil => intro _; exact .nil
    | cons v r ih =>
      intro h
      obtain ⟨k, t, rfl⟩ := h v List.mem_cons_self
      exact .cons k t (ih fun x hx => h x (List.mem_cons_of_mem _ hx))
  obtain ⟨h1, h2⟩ := str h
  refine ⟨_, back vs fun v hv => h1 v (p.mem_iff.mp hv), ?_⟩
  rw [h2]
  exact p.map _
section
variable {X : Cx}
theorem sorted_fin {pins : List (Addr × Obj)} {σ : L2.St} {H : Hp} {s : Shared} {Q : VK} {r : Value} (zs : List Str) (h64 : zs.length < 64)
    (hc : ∀ Q' : List Value → Shared → Prop, (∀ s1 vs ys, Inv X pins σ H s1 → StrsAre vs ys → ys.Perm zs → Q' vs s1) → wpAny (model X.prog X.w) X.A.in1 (collect r) Q' X.xe s)
    (q : ∀ ys p, ys.Perm zs → sortedS ys = true → H p = none → Q (.ref p) (upd H p (.lst (ys.map V.str)))) : wpAny (model X.prog X.w) X.A (call (.builtin "sorted") [r]) (EP X pins σ Q) X.xe s := by
  refine Calls.call_function_entry kind_sorted plain_sorted entry_sorted (args_sorted1 _) ?_
  unfold Builtin.«sorted»
  refine wpAny_bind (m := checkCount "sorted" 1 1 _) (wpAny_pure ?_)
  refine wpAny_bind (hc _ fun s1 vs ys I1 hS pm => ?_)
  have hvl : vs.length < 64 := by rw [StrsAre.len_eq hS, pm.length_eq]; exact h64
  refine wpAny_bind (wpAny_newList ?_ (by rw [sizeLine_eq]; omega))
  have hoL : (s1.heap.push (seqObj "list" vs.toArray 0)).get? s1.heap.objs.size = some (seqObj "list" vs.toArray 0) := Heap.get?_push_size _ rfl
  refine wpAny_bind (wpAny_holding (wpAny_call_entry slot_list_sort ⟨_, hoL, rfl⟩ entry_list_sort
    (list_sort_treeK (s := { s1 with heap := s1.heap.push (seqObj "list" vs.toArray 0) }) strKind_oneLt hoL hS.keysOf (fun v₁ v₂ rest e => keyKind_strs (by rw [← e]; exact hS)) hvl fun st' hp hs => ⟨_, rfl, ?_⟩) (args_list_sort _)))
  obtain ⟨ys', q1, q2, q3⟩ := sorted_out_str hS hp hs
  obtain ⟨c, hcc⟩ := sortedHeap_at (vs := vs) (out := (arrOf st').map (·.2)) hoL
  have hlen : (ys'.map V.str).length ≤ sizeLine := by rw [List.length_map, (q2.trans pm).length_eq, sizeLine_eq]; omega
  refine wpAny_pure ⟨_, rfl, .ref s1.heap.objs.size, upd H s1.heap.objs.size (.lst (ys'.map V.str)), I1.laid (t' := s1.toks) (fun b u e => ?_) (Nat.le_refl _)
    (show ObjOk X.prog X.w _ _ _ (.lst (ys'.map V.str)) from ⟨hlen, ((arrOf st').map (·.2)).toList, c, vals_of_strs q1, by rw [Array.toArray_toList]; exact hcc⟩), rfl, q ys' _ (q2.trans pm) q3 (I1.hok.fresh (Nat.le_refl _))⟩
  have hlt := Heap.lt_size e
  rw [sortedHeap_old (Nat.ne_of_lt hlt) (by rw [size_push']; exact Nat.lt_succ_of_lt hlt)]
  exact Heap.get?_push_of_some _ e
/-- sorted(t), t a tuple of texts -/
def rSortedT (K : PySem.W.Frag) : List V → Hp → VK → Prop := fun vs H Q => ∃ (a : Addr) (xs : List Str), vs = [V.ref a] ∧ SqT K H a (xs.map V.str) ∧ xs.length < 64 ∧
  ∀ (ys : List Str) (p : Addr), ys.Perm xs → sortedS ys = true → H p = none → Q (.ref p) (upd H p (.lst (ys.map V.str)))
theorem cSortT (K : PySem.W.Frag) (hK : X.K = K) : CallR X (.builtin "sorted") (rSortedT K) := by
  subst hK
  intro pins s σ H vs us Q I r h
  obtain ⟨a, xs, rfl, hq, h64, q⟩ := h
  rw [Vals.ref1 r]
  obtain ⟨its, rv, pl, hz⟩ := I.tuple hq
  obtain ⟨o, ho, hc, n, hd⟩ := id pl
  refine sorted_fin xs h64 (fun Q' hQ' => ?_) q
  refine wpAny_collect_seq a (.inr rfl) ho hc hd (fun h' k => ?_) (by rw [List.size_toArray, ← rv.length, List.length_map, sizeLine_eq]; omega)
  exact hQ' { s with heap := h' } _ xs (I.kept (t' := s.toks) k) (by simpa using strs_zip rv) (List.Perm.refl _)
/-- sorted(s), s a set of texts -/
def rSortedZ (w : World) : List V → Hp → VK → Prop := fun vs H Q => ∃ (a : Addr) (xs : List Str), vs = [V.ref a] ∧ H a = some (SetZO w a xs) ∧ xs.length < 64 ∧
  ∀ (zs ys : List Str) (p : Addr), zs.Nodup → (∀ k, k ∈ zs ↔ k ∈ xs) → ys.Perm zs → sortedS ys = true → H p = none → Q (.ref p) (upd H p (.lst (ys.map V.str)))
theorem cSortZ (w : World) (hw : X.w = w) (hc : X.calm = true) : CallR X (.builtin "sorted") (rSortedZ w) := by
  subst hw
  intro pins s σ H vs us Q I r h
  obtain ⟨a, xs, rfl, ha, h64, q⟩ := h
  rw [Vals.ref1 r]
  obtain ⟨n, hn1, _, R⟩ := (I.hok a _ ha).1
  obtain ⟨o, es, ep, t, ho, hex, hd, g, nd, hm, hb, hf, hn, hr, hl⟩ := R
  have hs : ∀ l : List (Int × Value), (∀ e ∈ l, GoodZ X.w e) → StrsAre (l.map (·.2)) (l.map keyZ) := by
    intro l
    induction l with
    | nil => intro _; exact .nil
    | cons e r ih =>
      intro hg
      obtain ⟨k, tk, e1, e2⟩ := hg e List.mem_cons_self
      have : keyZ e = k := by unfold keyZ; rw [e1]
      rw [List.map_cons, List.map_cons, e1, this]
      exact .cons k tk (ih fun x hx => hg x (List.mem_cons_of_mem _ hx))
  have key : ∀ k, k ∈ es.toList.map keyZ ↔ k ∈ xs := fun k => by
    rw [← hm k, List.take_length, decide_eq_true_eq]
  refine sorted_fin (es.toList.map keyZ) (by rw [List.length_map, Array.length_toList, hn]; omega) (fun Q' hQ' => ?_) fun ys p pm so hp => q _ ys p nd key pm so hp
  refine collect_set (A := X.A.in1) (I.ok.hd hc) ⟨o, ho, hex.1, hd⟩ hf hb hr hl fun s1 out k1 hz g1 o1 pm => ?_
  obtain ⟨zs, h1, h2⟩ := strs_perm (hs _ g) pm
  have J : Inv X pins σ H { s with heap := s1.heap, gens := s1.gens, drawn := s1.drawn, toks := s1.toks } :=
    I.call (ch := []) (Un.kept k1) (I.hok.kept k1) (by rw [g1]; exact I.bare) (fun _ z => nomatch z)
  have e : s1 = { s with heap := s1.heap, gens := s1.gens, drawn := s1.drawn, toks := s1.toks } := by
    cases s1
    cases s
    cases o1
    rfl
  rw [← e] at J
  exact hQ' s1 out zs J h1 h2
end
end Fp

/-! ## FpKinds -/
set_option Elab.async false
set_option linter.all false
set_option maxRecDepth 100000
set_option maxHeartbeats 2000000
namespace Fp
open PySem PySem.Spec PyProof.Rows L2
variable {P : Program} {w : World} {K : PySem.W.Frag} {mg : Str → Option Value} {base : Heap}
/-! ### is_integer -/
/-- slots: 0 thing -/
abbrev N_is_integer : List Str := [Str.ofString "thing"]
theorem sc_is_integer : FnScope N_is_integer [Str.ofString "thing"] (defScope s_is_integer) := ⟨rfl, rfl, rfl, by decide +kernel, rfl, by decide +kernel, by decide +kernel⟩
def S_is_integer : Sq := fun vs H Q => ∃ i : Int, vs = [.int i] ∧ Q (.bl true) H
theorem r_is_integer (T : Tx K mg) : FnR P w K mg base CX0 1 (a_is_integer K) (sp S_is_integer) := by
  refine fr_of (S := S_is_integer) (N := N_is_integer) (f_is_integer T) sc_is_integer (fun vs H Q h => by first | (obtain ⟨rfl, _⟩ := h; rfl) | (obtain ⟨_, rfl, _⟩ := h; rfl) | (obtain ⟨_, _, rfl, _⟩ := h; rfl) | (obtain ⟨_, _, _, rfl, _⟩ := h; rfl) | (obtain ⟨_, _, _, _, rfl, _⟩ := h; rfl) | (obtain ⟨_, _, _, _, _, rfl, _⟩ := h; rfl) | (obtain ⟨_, _, _, _, _, _, rfl, _⟩ := h; rfl) | (obtain ⟨_, _, _, _, _, _, _, rfl, _⟩ := h; rfl) | (obtain ⟨_, _, _, _, _, _, _, _, rfl, _⟩ := h; rfl) | (obtain ⟨_, _, _, _, _, _, _, _, _, rfl, _⟩ := h; rfl) | (obtain ⟨_, _, _, _, _, _, _, _, _, _, rfl, _⟩ := h; rfl) | (obtain ⟨_, _, _, _, _, _, _, _, _, _, _, rfl, _⟩ := h; rfl) | (obtain ⟨_, _, _, _, _, _, _, _, _, _, _, _, rfl, _⟩ := h; rfl) | (obtain ⟨_, _, _, _, _, _, _, _, _, _, _, _, _, rfl, _⟩ := h; rfl) | (obtain ⟨_, _, _, _, _, _, _, _, _, _, _, _, _, _, rfl, _⟩ := h; rfl) | (obtain ⟨_, _, _, _, _, _, _, _, _, _, _, _, _, _, _, rfl, _⟩ := h; rfl) | (obtain ⟨_, _, _, _, _, _, _, _, _, _, _, _, _, _, _, _, rfl, _⟩ := h; rfl)) (fun _ _ _ _ _ _ us hl => match us, hl with | [_], _ => rfl) (fun cdv A outer s H vs Q E hr h => ?_)
  obtain ⟨i, rfl, q⟩ := h
  refine ⟨_, (pss_one (ps_ret (pe_and (pe_callB (cIsi K rfl) rfl (n_isinstance T) (by decide +kernel) (pa_cons (pv 0) (pa_cons (pe_bltn (v := .ty "int") rfl (n_int T) (by decide +kernel) rfl) pa_nil))) (pe_one (pe_not (pe_callB (cIsi K rfl) rfl (n_isinstance T) (by decide +kernel) (pa_cons (pv 0) (pa_cons (pe_bltn (v := .ty "bool") rfl (n_bool T) (by decide +kernel) rfl) pa_nil)))))))), ?_⟩
  refine ⟨_, rfl, _, _, _, _, _, rfl, .ty _, .base (.int _), kt_ii, true, rfl, iteT ⟨_, rfl, _, _, _, _, _, rfl, .ty _, .base (.int _), kt_ib, false, rfl, q⟩⟩
/-! ### fits -/
/-- slots: 0 part, 1 kind -/
abbrev N_fits : List Str := [Str.ofString "part", Str.ofString "kind"]
theorem sc_fits : FnScope N_fits [Str.ofString "part", Str.ofString "kind"] (defScope s_fits) := ⟨rfl, rfl, rfl, by decide +kernel, rfl, by decide +kernel, by decide +kernel⟩
def S_fits : Sq := fun vs H Q => ∃ a b : Str, vs = [.str a, .str b] ∧ ∀ H', Same H H' → Q (.bl (decide (a ∈ (["plain", b] : List Str)))) H'
theorem r_fits (T : Tx K mg) : FnR P w K mg base CX0 1 (a_fits K) (sp S_fits) := by
  refine fr_of (S := S_fits) (N := N_fits) (f_fits T) sc_fits (fun vs H Q h => by first | (obtain ⟨rfl, _⟩ := h; rfl) | (obtain ⟨_, rfl, _⟩ := h; rfl) | (obtain ⟨_, _, rfl, _⟩ := h; rfl) | (obtain ⟨_, _, _, rfl, _⟩ := h; rfl) | (obtain ⟨_, _, _, _, rfl, _⟩ := h; rfl) | (obtain ⟨_, _, _, _, _, rfl, _⟩ := h; rfl) | (obtain ⟨_, _, _, _, _, _, rfl, _⟩ := h; rfl) | (obtain ⟨_, _, _, _, _, _, _, rfl, _⟩ := h; rfl) | (obtain ⟨_, _, _, _, _, _, _, _, rfl, _⟩ := h; rfl) | (obtain ⟨_, _, _, _, _, _, _, _, _, rfl, _⟩ := h; rfl) | (obtain ⟨_, _, _, _, _, _, _, _, _, _, rfl, _⟩ := h; rfl) | (obtain ⟨_, _, _, _, _, _, _, _, _, _, _, rfl, _⟩ := h; rfl) | (obtain ⟨_, _, _, _, _, _, _, _, _, _, _, _, rfl, _⟩ := h; rfl) | (obtain ⟨_, _, _, _, _, _, _, _, _, _, _, _, _, rfl, _⟩ := h; rfl) | (obtain ⟨_, _, _, _, _, _, _, _, _, _, _, _, _, _, rfl, _⟩ := h; rfl) | (obtain ⟨_, _, _, _, _, _, _, _, _, _, _, _, _, _, _, rfl, _⟩ := h; rfl) | (obtain ⟨_, _, _, _, _, _, _, _, _, _, _, _, _, _, _, _, rfl, _⟩ := h; rfl)) (fun _ _ _ _ _ _ us hl => match us, hl with | [_, _], _ => rfl) (fun cdv A outer s H vs Q E hr h => ?_)
  obtain ⟨a, b, rfl, q⟩ := h
  refine ⟨_, (pss_one (ps_ret (pe_cmpR (inSq K rfl) (pv 0) (pe_tup (pa_cons pe_str (pa_cons (pv 1) pa_nil))) (by rfl)))), ?_⟩
  refine ⟨_, rfl, _, rfl, ln2, fun t ht => ?_⟩
  refine ⟨t, _, rfl, .inr (.inl (.inl upd_same)), rfl, rfl, ?_⟩
  have z := q _ (same_new (o := .tup [V.str "plain", V.str b]) ht)
  rw [← inV_strs] at z
  exact z
/-! ### is_name -/
/-- slots: 0 thing, 1 sign -/
abbrev N_is_name : List Str := [Str.ofString "thing", Str.ofString "sign"]
theorem sc_is_name : FnScope N_is_name [Str.ofString "thing"] (defScope s_is_name) := ⟨rfl, rfl, rfl, by decide +kernel, rfl, by decide +kernel, by decide +kernel⟩
def S_is_name : Sq := fun vs H Q => ∃ z : Str, vs = [.str z] ∧ IsNm z ∧ ∀ H', Same H H' → Q (.bl true) H'
theorem r_is_name (T : Tx K mg) : FnR P w K mg base CX0 1 (a_is_name K) (sp S_is_name) := by
  refine fr_of (S := S_is_name) (N := N_is_name) (f_is_name T) sc_is_name (fun vs H Q h => by first | (obtain ⟨rfl, _⟩ := h; rfl) | (obtain ⟨_, rfl, _⟩ := h; rfl) | (obtain ⟨_, _, rfl, _⟩ := h; rfl) | (obtain ⟨_, _, _, rfl, _⟩ := h; rfl) | (obtain ⟨_, _, _, _, rfl, _⟩ := h; rfl) | (obtain ⟨_, _, _, _, _, rfl, _⟩ := h; rfl) | (obtain ⟨_, _, _, _, _, _, rfl, _⟩ := h; rfl) | (obtain ⟨_, _, _, _, _, _, _, rfl, _⟩ := h; rfl) | (obtain ⟨_, _, _, _, _, _, _, _, rfl, _⟩ := h; rfl) | (obtain ⟨_, _, _, _, _, _, _, _, _, rfl, _⟩ := h; rfl) | (obtain ⟨_, _, _, _, _, _, _, _, _, _, rfl, _⟩ := h; rfl) | (obtain ⟨_, _, _, _, _, _, _, _, _, _, _, rfl, _⟩ := h; rfl) | (obtain ⟨_, _, _, _, _, _, _, _, _, _, _, _, rfl, _⟩ := h; rfl) | (obtain ⟨_, _, _, _, _, _, _, _, _, _, _, _, _, rfl, _⟩ := h; rfl) | (obtain ⟨_, _, _, _, _, _, _, _, _, _, _, _, _, _, rfl, _⟩ := h; rfl) | (obtain ⟨_, _, _, _, _, _, _, _, _, _, _, _, _, _, _, rfl, _⟩ := h; rfl) | (obtain ⟨_, _, _, _, _, _, _, _, _, _, _, _, _, _, _, _, rfl, _⟩ := h; rfl)) (fun _ _ _ _ _ _ us hl => match us, hl with | [_], _ => rfl) (fun cdv A outer s H vs Q E hr h => ?_)
  obtain ⟨z, rfl, ⟨hz1, hz2, hz3⟩, q⟩ := h
  have hl : z.length ≤ sizeLine := sz1000' (by omega)
  refine ⟨_, (pss_cons (ps_if (PW.pt (pw_or (pt_not (pt_val (pe_callB (cIsi K rfl) rfl (n_isinstance T) (by decide +kernel) (pa_cons (pv 0) (pa_cons (pe_bltn (v := .ty "str") rfl (n_str T) (by decide +kernel) rfl) pa_nil))))) (pw_or1 (pt_not (pt_chain op_le op_le pe_int (pe_callB (cLen K rfl) rfl (n_len T) (by decide +kernel) (pa_cons (pv 0) pa_nil)) (pe_gi rfl (z_LONGEST T))))))) (pss_one (ps_ret pe_bl)) pss_nil)
      (pss_one (ps_ret (pe_callB (cAll K rfl rfl) rfl (n_all T) (by decide +kernel) (pa_cons (pe_lc (own := [("sign", 1)]) (g := gName 1) rfl sc_is_name.nd (pi_str (pv 0)) (blkOk_by (own := [("sign", 1)]) (N := N_is_name) (sc := defScope s_is_name) (by decide +kernel)) (fun _ _ _ _ _ => (pg_name (i := 1) sc_is_name.nd rfl (.inl rfl))) (fun _ _ _ _ _ => pts_nil) (fun _ _ _ _ _ => (pe_cmpR op_in_sign (pv 1) (pe_gs rfl (z_LETTERS T)) (by rfl)))) pa_nil))))), ?_⟩
  refine ⟨_, rfl, _, _, _, _, _, rfl, .ty _, .base (.str _), kt_ss, true, rfl, iteF ?_⟩
  refine ⟨_, rfl, _, _, rfl, ⟨hl, rfl⟩, _, _, rfl, rfl, true, bT (by omega), iteT ?_⟩
  refine ⟨_, _, rfl, rfl, true, bT (by omega), iteF ?_⟩
  refine ⟨.str z, rfl, z, rfl, fun D hD => ?_⟩
  refine lc_m wd_str none rBl (fun _ => true) hD (go_refl H) (fun _ _ => trivial) (sz1000 (by show z.cps.toList.length ≤ 1000; rw [Array.length_toList]; exact Nat.le_trans hz2 (by decide))) (fun c x H1 H' L hc go y fin => ?_) fun H1 acc go hD pa => ?_
  · obtain ⟨rfl, rfl⟩ := y
    refine ⟨rfl, yes ?_⟩
    refine ⟨_, rfl, _, _, rfl, rfl, fin _ _ (go_refl _) ?_⟩
    exact bT (hz3 c hc)
  · refine ⟨D, _, rfl, .inl (.inl (by rw [hD, bls_of pa])), ?_⟩
    rw [all_true]
    exact q _ go
/-! ### is_source -/
/-- slots: 0 thing -/
abbrev N_is_source : List Str := [Str.ofString "thing"]
theorem sc_is_source : FnScope N_is_source [Str.ofString "thing"] (defScope s_is_source) := ⟨rfl, rfl, rfl, by decide +kernel, rfl, by decide +kernel, by decide +kernel⟩
def S_is_source : Sq := fun vs H Q => ∃ z : Str, vs = [.str z] ∧ (z = e0 ∨ IsNm z) ∧ ∀ H', Same H H' → Q (.bl true) H'
theorem r_is_source (T : Tx K mg) (c_is_name : Cal P w K mg base 1 "is_name" S_is_name) : FnR P w K mg base CX0 2 (a_is_source K) (sp S_is_source) := by
  refine fr_of (S := S_is_source) (N := N_is_source) (f_is_source T) sc_is_source (fun vs H Q h => by first | (obtain ⟨rfl, _⟩ := h; rfl) | (obtain ⟨_, rfl, _⟩ := h; rfl) | (obtain ⟨_, _, rfl, _⟩ := h; rfl) | (obtain ⟨_, _, _, rfl, _⟩ := h; rfl) | (obtain ⟨_, _, _, _, rfl, _⟩ := h; rfl) | (obtain ⟨_, _, _, _, _, rfl, _⟩ := h; rfl) | (obtain ⟨_, _, _, _, _, _, rfl, _⟩ := h; rfl) | (obtain ⟨_, _, _, _, _, _, _, rfl, _⟩ := h; rfl) | (obtain ⟨_, _, _, _, _, _, _, _, rfl, _⟩ := h; rfl) | (obtain ⟨_, _, _, _, _, _, _, _, _, rfl, _⟩ := h; rfl) | (obtain ⟨_, _, _, _, _, _, _, _, _, _, rfl, _⟩ := h; rfl) | (obtain ⟨_, _, _, _, _, _, _, _, _, _, _, rfl, _⟩ := h; rfl) | (obtain ⟨_, _, _, _, _, _, _, _, _, _, _, _, rfl, _⟩ := h; rfl) | (obtain ⟨_, _, _, _, _, _, _, _, _, _, _, _, _, rfl, _⟩ := h; rfl) | (obtain ⟨_, _, _, _, _, _, _, _, _, _, _, _, _, _, rfl, _⟩ := h; rfl) | (obtain ⟨_, _, _, _, _, _, _, _, _, _, _, _, _, _, _, rfl, _⟩ := h; rfl) | (obtain ⟨_, _, _, _, _, _, _, _, _, _, _, _, _, _, _, _, rfl, _⟩ := h; rfl)) (fun _ _ _ _ _ _ us hl => match us, hl with | [_], _ => rfl) (fun cdv A outer s H vs Q E hr h => ?_)
  obtain ⟨z, rfl, hz, q⟩ := h
  refine ⟨_, (pss_one (ps_ret (pe_and (pe_callB (cIsi K rfl) rfl (n_isinstance T) (by decide +kernel) (pa_cons (pv 0) (pa_cons (pe_bltn (v := .ty "str") rfl (n_str T) (by decide +kernel) rfl) pa_nil))) (pe_one (pe_or (pe_cmpR op_eq (pv 0) (pe_gs rfl (z_ZERO T)) (nomark _)) (pe_one (pcall c_is_name hr (by decide) rfl (pa_cons (pv 0) pa_nil)))))))), ?_⟩
  refine ⟨_, rfl, _, _, _, _, _, rfl, .ty _, .base (.str _), kt_ss, true, rfl, iteT ?_⟩
  by_cases e : z = e0
  · exact ⟨_, rfl, rfl, true, sT e, iteT (q _ (Same.refl H))⟩
  · exact ⟨_, rfl, rfl, false, sF e, iteF ⟨_, rfl, z, rfl, hz.resolve_left e, q⟩⟩
/-! ### is_kind -/
/-- slots: 0 thing -/
abbrev N_is_kind : List Str := [Str.ofString "thing"]
theorem sc_is_kind : FnScope N_is_kind [Str.ofString "thing"] (defScope s_is_kind) := ⟨rfl, rfl, rfl, by decide +kernel, rfl, by decide +kernel, by decide +kernel⟩
def S_is_kind : Sq := fun vs H Q => ∃ z : Str, vs = [.str z] ∧ z ∈ (["plain", "high", "low"] : List Str) ∧ Q (.bl true) H
theorem r_is_kind (T : Tx K mg) : FnR P w K mg base CX0 1 (a_is_kind K) (sp S_is_kind) := by
  refine fr_of (S := S_is_kind) (N := N_is_kind) (f_is_kind T) sc_is_kind (fun vs H Q h => by first | (obtain ⟨rfl, _⟩ := h; rfl) | (obtain ⟨_, rfl, _⟩ := h; rfl) | (obtain ⟨_, _, rfl, _⟩ := h; rfl) | (obtain ⟨_, _, _, rfl, _⟩ := h; rfl) | (obtain ⟨_, _, _, _, rfl, _⟩ := h; rfl) | (obtain ⟨_, _, _, _, _, rfl, _⟩ := h; rfl) | (obtain ⟨_, _, _, _, _, _, rfl, _⟩ := h; rfl) | (obtain ⟨_, _, _, _, _, _, _, rfl, _⟩ := h; rfl) | (obtain ⟨_, _, _, _, _, _, _, _, rfl, _⟩ := h; rfl) | (obtain ⟨_, _, _, _, _, _, _, _, _, rfl, _⟩ := h; rfl) | (obtain ⟨_, _, _, _, _, _, _, _, _, _, rfl, _⟩ := h; rfl) | (obtain ⟨_, _, _, _, _, _, _, _, _, _, _, rfl, _⟩ := h; rfl) | (obtain ⟨_, _, _, _, _, _, _, _, _, _, _, _, rfl, _⟩ := h; rfl) | (obtain ⟨_, _, _, _, _, _, _, _, _, _, _, _, _, rfl, _⟩ := h; rfl) | (obtain ⟨_, _, _, _, _, _, _, _, _, _, _, _, _, _, rfl, _⟩ := h; rfl) | (obtain ⟨_, _, _, _, _, _, _, _, _, _, _, _, _, _, _, rfl, _⟩ := h; rfl) | (obtain ⟨_, _, _, _, _, _, _, _, _, _, _, _, _, _, _, _, rfl, _⟩ := h; rfl)) (fun _ _ _ _ _ _ us hl => match us, hl with | [_], _ => rfl) (fun cdv A outer s H vs Q E hr h => ?_)
  obtain ⟨z, rfl, hz, q⟩ := h
  refine ⟨_, (pss_one (ps_ret (pe_and (pe_callB (cIsi K rfl) rfl (n_isinstance T) (by decide +kernel) (pa_cons (pv 0) (pa_cons (pe_bltn (v := .ty "str") rfl (n_str T) (by decide +kernel) rfl) pa_nil))) (pe_one (pe_cmpR (inSq K rfl) (pv 0) (pe_glob (v := .ref (He.ga K "KINDS")) rfl (g_KINDS T) rfl) (by rfl)))))), ?_⟩
  refine ⟨_, rfl, _, _, _, _, _, rfl, .ty _, .base (.str _), kt_ss, true, rfl, iteT ?_⟩
  refine ⟨_, rfl, _, _, rfl, .inr (z_KINDS T H), rfl, rfl, ?_⟩
  have e := inV_strs z ["plain", "high", "low"]
  rw [decide_eq_true hz] at e
  rw [if_neg Bool.false_ne_true]
  rw [show inV (.str z) [.str "plain", .str "high", .str "low"] = true from e]
  exact q
/-! ### are_names -/
/-- slots: 0 thing, 1 one -/
abbrev N_are_names : List Str := [Str.ofString "thing", Str.ofString "one"]
theorem sc_are_names : FnScope N_are_names [Str.ofString "thing"] (defScope s_are_names) := ⟨rfl, rfl, rfl, by decide +kernel, rfl, by decide +kernel, by decide +kernel⟩
def S_are_different : Sq := fun vs H Q => ∃ (a : Addr) (xs : List Str), vs = [.ref a] ∧ Sq2 H a (xs.map V.str) ∧ xs.length ≤ 1000 ∧ xs.Nodup ∧ ∀ H', Same H H' → Q (.bl true) H'
def S_are_names : Sq := fun vs H Q => ∃ (a : Addr) (xs : List Str), vs = [.ref a] ∧ Sq2 H a (xs.map V.str) ∧ xs.length ≤ 1000 ∧ xs.Nodup ∧ (∀ x ∈ xs, IsNm x) ∧ ∀ H', Same H H' → Q (.bl true) H'
theorem r_are_names (T : Tx K mg) (c_is_name : Cal P w K mg base 1 "is_name" S_is_name) (c_are_different : Cal P w K mg base 1 "are_different" S_are_different) : FnR P w K mg base CX0 2 (a_are_names K) (sp S_are_names) := by
  refine fr_of (S := S_are_names) (N := N_are_names) (f_are_names T) sc_are_names (fun vs H Q h => by first | (obtain ⟨rfl, _⟩ := h; rfl) | (obtain ⟨_, rfl, _⟩ := h; rfl) | (obtain ⟨_, _, rfl, _⟩ := h; rfl) | (obtain ⟨_, _, _, rfl, _⟩ := h; rfl) | (obtain ⟨_, _, _, _, rfl, _⟩ := h; rfl) | (obtain ⟨_, _, _, _, _, rfl, _⟩ := h; rfl) | (obtain ⟨_, _, _, _, _, _, rfl, _⟩ := h; rfl) | (obtain ⟨_, _, _, _, _, _, _, rfl, _⟩ := h; rfl) | (obtain ⟨_, _, _, _, _, _, _, _, rfl, _⟩ := h; rfl) | (obtain ⟨_, _, _, _, _, _, _, _, _, rfl, _⟩ := h; rfl) | (obtain ⟨_, _, _, _, _, _, _, _, _, _, rfl, _⟩ := h; rfl) | (obtain ⟨_, _, _, _, _, _, _, _, _, _, _, rfl, _⟩ := h; rfl) | (obtain ⟨_, _, _, _, _, _, _, _, _, _, _, _, rfl, _⟩ := h; rfl) | (obtain ⟨_, _, _, _, _, _, _, _, _, _, _, _, _, rfl, _⟩ := h; rfl) | (obtain ⟨_, _, _, _, _, _, _, _, _, _, _, _, _, _, rfl, _⟩ := h; rfl) | (obtain ⟨_, _, _, _, _, _, _, _, _, _, _, _, _, _, _, rfl, _⟩ := h; rfl) | (obtain ⟨_, _, _, _, _, _, _, _, _, _, _, _, _, _, _, _, rfl, _⟩ := h; rfl)) (fun _ _ _ _ _ _ us hl => match us, hl with | [_], _ => rfl) (fun cdv A outer s H vs Q E hr h => ?_)
  obtain ⟨a, xs, rfl, hs, hl, nd, hn, q⟩ := h
  refine ⟨_, (pss_cons (ps_if (PW.pt (pw_or (pt_not (pt_val (pe_callB (cIsiT K rfl) rfl (n_isinstance T) (by decide +kernel) (pa_cons (pv 0) (pa_cons (pe_tup (pa_cons (pe_bltn (v := .ty "list") rfl (n_list T) (by decide +kernel) rfl) (pa_cons (pe_bltn (v := .ty "tuple") rfl (n_tuple T) (by decide +kernel) rfl) pa_nil))) pa_nil))))) (pw_or1 (pt_not (pt_val (pe_callB (cAll K rfl rfl) rfl (n_all T) (by decide +kernel) (pa_cons (pe_lc (own := [("one", 1)]) (g := gName 1) rfl sc_are_names.nd (piAny K rfl (pv 0)) (blkOk_by (own := [("one", 1)]) (N := N_are_names) (sc := defScope s_are_names) (by decide +kernel)) (fun _ _ _ _ _ => (pg_name (i := 1) sc_are_names.nd rfl (.inl rfl))) (fun _ _ _ _ _ => pts_nil) (fun _ _ _ _ _ => (pcall c_is_name hr (by decide) rfl (pa_cons (pv 1) pa_nil)))) pa_nil))))))) (pss_one (ps_ret pe_bl)) pss_nil)
      (pss_one (ps_ret (pcall c_are_different hr (by decide) rfl (pa_cons (pv 0) pa_nil))))), ?_⟩
  refine ⟨_, rfl, ln2, fun t ht => ?_⟩
  have s1 : Same H (upd H t (.tup [V.ty "list", V.ty "tuple"])) := same_new ht
  obtain ⟨ty, h1, h2⟩ := lt_any (K := K) (hs.same s1)
  refine ⟨_, _, _, _, _, _, rfl, upd_same, lt_cls, h1, h2, true, rfl, iteF ?_⟩
  have sq := hs.same s1
  refine any_wd (K := K) (tl := tVar 0) sq (of_strs (H := H) xs) (fun Q h => ⟨_, rfl, h⟩) fun J G wd hG D hD => ?_
  refine lc_m wd none rBl (fun _ => true) hD (go_refl _) (fun H' g => hG _ g) (sz1000 hl) (fun x v H1 H' L hx go y fin => ?_) fun H1 acc go hD pa => ?_
  · obtain ⟨rfl, rfl⟩ := y
    exact ⟨rfl, yes ⟨_, rfl, x, rfl, hn x hx, fun H2 s2 => fin _ _ s2 rfl⟩⟩
  · refine ⟨D, _, rfl, alls hD pa, ?_⟩
    rw [all_true]
    refine ⟨true, rfl, iteF ⟨_, rfl, a, xs, rfl, sq.same go, hl, nd, fun H2 s2 => q _ ((s1.trans go).trans s2)⟩⟩
end Fp

/-! ## FpStm -/
set_option Elab.async false
set_option linter.all false
set_option maxRecDepth 100000
set_option maxHeartbeats 2000000
namespace Fp
open PySem PySem.Spec PyProof.Rows L2
variable {P : Program} {w : World} {K : PySem.W.Frag} {mg : Str → Option Value} {base : Heap}
/-! ### is_part -/
/-- slots: 0 thing -/
abbrev N_is_part : List Str := [Str.ofString "thing"]
theorem sc_is_part : FnScope N_is_part [Str.ofString "thing"] (defScope s_is_part) := ⟨rfl, rfl, rfl, by decide +kernel, rfl, by decide +kernel, by decide +kernel⟩
def S_is_part : Sq := fun vs H Q => ∃ (v : V) (p : Part), vs = [v] ∧ rPart H v p ∧ Src p.1 ∧ ∀ H', Same H H' → Q (.bl true) H'
theorem r_is_part (T : Tx K mg) (c_is_source : Cal P w K mg base 2 "is_source" S_is_source) (c_is_integer : Cal P w K mg base 1 "is_integer" S_is_integer) : FnR P w K mg base CX0 3 (a_is_part K) (sp S_is_part) := by
  refine fr_of (S := S_is_part) (N := N_is_part) (f_is_part T) sc_is_part (fun vs H Q h => by first | (obtain ⟨rfl, _⟩ := h; rfl) | (obtain ⟨_, rfl, _⟩ := h; rfl) | (obtain ⟨_, _, rfl, _⟩ := h; rfl) | (obtain ⟨_, _, _, rfl, _⟩ := h; rfl) | (obtain ⟨_, _, _, _, rfl, _⟩ := h; rfl) | (obtain ⟨_, _, _, _, _, rfl, _⟩ := h; rfl) | (obtain ⟨_, _, _, _, _, _, rfl, _⟩ := h; rfl) | (obtain ⟨_, _, _, _, _, _, _, rfl, _⟩ := h; rfl) | (obtain ⟨_, _, _, _, _, _, _, _, rfl, _⟩ := h; rfl) | (obtain ⟨_, _, _, _, _, _, _, _, _, rfl, _⟩ := h; rfl) | (obtain ⟨_, _, _, _, _, _, _, _, _, _, rfl, _⟩ := h; rfl) | (obtain ⟨_, _, _, _, _, _, _, _, _, _, _, rfl, _⟩ := h; rfl) | (obtain ⟨_, _, _, _, _, _, _, _, _, _, _, _, rfl, _⟩ := h; rfl) | (obtain ⟨_, _, _, _, _, _, _, _, _, _, _, _, _, rfl, _⟩ := h; rfl) | (obtain ⟨_, _, _, _, _, _, _, _, _, _, _, _, _, _, rfl, _⟩ := h; rfl) | (obtain ⟨_, _, _, _, _, _, _, _, _, _, _, _, _, _, _, rfl, _⟩ := h; rfl) | (obtain ⟨_, _, _, _, _, _, _, _, _, _, _, _, _, _, _, _, rfl, _⟩ := h; rfl)) (fun _ _ _ _ _ _ us hl => match us, hl with | [_], _ => rfl) (fun cdv A outer s H vs Q E hr h => ?_)
  obtain ⟨v, p, rfl, ⟨a, x, y, rfl, ha, rfl, rfl⟩, hs, q⟩ := h
  refine ⟨_, (pss_one (ps_ret (pe_and (pe_callB (cIsi K rfl) rfl (n_isinstance T) (by decide +kernel) (pa_cons (pv 0) (pa_cons (pe_bltn (v := .ty "tuple") rfl (n_tuple T) (by decide +kernel) rfl) pa_nil))) (pe_and (pe_cmpR op_eq (pe_callB (cLen K rfl) rfl (n_len T) (by decide +kernel) (pa_cons (pv 0) pa_nil)) pe_int (nomark _)) (pe_and (pcall c_is_source hr (by decide) rfl (pa_cons (pe_ix (ixT K rfl) (pv 0) pe_int (fun _ _ => rfl)) pa_nil)) (pe_one (pcall c_is_integer hr (by decide) rfl (pa_cons (pe_ix (ixT K rfl) (pv 0) pe_int (fun _ _ => rfl)) pa_nil)))))))), ?_⟩
  refine ⟨_, rfl, _, _, _, _, _, rfl, .ty _, .base (.tup ha), kt_tt, true, rfl, iteT ?_⟩
  refine ⟨_, rfl, _, _, rfl, .inr ⟨_, .inl (.inl ha), rfl⟩, rfl, true, bT rfl, iteT ?_⟩
  refine ⟨_, rfl, _, _, _, _, rfl, rfl, .inl (.inl ha), rfl, _, rfl, hs, fun H1 s1 => ⟨true, rfl, iteT ?_⟩⟩
  exact ⟨_, rfl, _, _, _, _, rfl, rfl, .inl (.inl (s1 _ _ ha)), rfl, _, rfl, q _ s1⟩
/-! ### are_parts -/
/-- slots: 0 thing, 1 one -/
abbrev N_are_parts : List Str := [Str.ofString "thing", Str.ofString "one"]
theorem sc_are_parts : FnScope N_are_parts [Str.ofString "thing"] (defScope s_are_parts) := ⟨rfl, rfl, rfl, by decide +kernel, rfl, by decide +kernel, by decide +kernel⟩
def S_are_parts : Sq := fun vs H Q => ∃ (v : V) (l : List Part), vs = [v] ∧ rTup rPart H v l ∧ l.length ≤ 60 ∧ (∀ p ∈ l, Src p.1) ∧ ∀ H', Same H H' → Q (.bl true) H'
theorem r_are_parts (T : Tx K mg) (c_is_part : Cal P w K mg base 3 "is_part" S_is_part) : FnR P w K mg base CX0 4 (a_are_parts K) (sp S_are_parts) := by
  refine fr_of (S := S_are_parts) (N := N_are_parts) (f_are_parts T) sc_are_parts (fun vs H Q h => by first | (obtain ⟨rfl, _⟩ := h; rfl) | (obtain ⟨_, rfl, _⟩ := h; rfl) | (obtain ⟨_, _, rfl, _⟩ := h; rfl) | (obtain ⟨_, _, _, rfl, _⟩ := h; rfl) | (obtain ⟨_, _, _, _, rfl, _⟩ := h; rfl) | (obtain ⟨_, _, _, _, _, rfl, _⟩ := h; rfl) | (obtain ⟨_, _, _, _, _, _, rfl, _⟩ := h; rfl) | (obtain ⟨_, _, _, _, _, _, _, rfl, _⟩ := h; rfl) | (obtain ⟨_, _, _, _, _, _, _, _, rfl, _⟩ := h; rfl) | (obtain ⟨_, _, _, _, _, _, _, _, _, rfl, _⟩ := h; rfl) | (obtain ⟨_, _, _, _, _, _, _, _, _, _, rfl, _⟩ := h; rfl) | (obtain ⟨_, _, _, _, _, _, _, _, _, _, _, rfl, _⟩ := h; rfl) | (obtain ⟨_, _, _, _, _, _, _, _, _, _, _, _, rfl, _⟩ := h; rfl) | (obtain ⟨_, _, _, _, _, _, _, _, _, _, _, _, _, rfl, _⟩ := h; rfl) | (obtain ⟨_, _, _, _, _, _, _, _, _, _, _, _, _, _, rfl, _⟩ := h; rfl) | (obtain ⟨_, _, _, _, _, _, _, _, _, _, _, _, _, _, _, rfl, _⟩ := h; rfl) | (obtain ⟨_, _, _, _, _, _, _, _, _, _, _, _, _, _, _, _, rfl, _⟩ := h; rfl)) (fun _ _ _ _ _ _ us hl => match us, hl with | [_], _ => rfl) (fun cdv A outer s H vs Q E hr h => ?_)
  obtain ⟨v, l, rfl, ⟨a, xs, rfl, ha, pa⟩, hl, hs, q⟩ := h
  refine ⟨_, (pss_one (ps_ret (pe_and (pe_callB (cIsiT K rfl) rfl (n_isinstance T) (by decide +kernel) (pa_cons (pv 0) (pa_cons (pe_tup (pa_cons (pe_bltn (v := .ty "list") rfl (n_list T) (by decide +kernel) rfl) (pa_cons (pe_bltn (v := .ty "tuple") rfl (n_tuple T) (by decide +kernel) rfl) pa_nil))) pa_nil))) (pe_one (pe_callB (cAll K rfl rfl) rfl (n_all T) (by decide +kernel) (pa_cons (pe_lc (own := [("one", 1)]) (g := gName 1) rfl sc_are_parts.nd (piTup K rfl (pv 0)) (blkOk_by (own := [("one", 1)]) (N := N_are_parts) (sc := defScope s_are_parts) (by decide +kernel)) (fun _ _ _ _ _ => (pg_name (i := 1) sc_are_parts.nd rfl (.inl rfl))) (fun _ _ _ _ _ => pts_nil) (fun _ _ _ _ _ => (pcall c_is_part hr (by decide) rfl (pa_cons (pv 1) pa_nil)))) pa_nil)))))), ?_⟩
  refine ⟨_, rfl, ln2, fun t ht => ?_⟩
  have s1 : Same H (upd H t (.tup [V.ty "list", V.ty "tuple"])) := same_new ht
  obtain ⟨ty, h1, h2⟩ := lt_any (K := K) (xs := xs) ⟨_, .inr (.inr rfl), s1 _ _ ha⟩
  refine ⟨_, _, _, _, _, _, rfl, upd_same, lt_cls, h1, h2, true, rfl, iteT ?_⟩
  refine ⟨_, rfl, a, rfl, ⟨xs, .inl (.inl (s1 _ _ ha))⟩, fun D hD => ?_⟩
  refine lc_m (wd_tup pa) none rBl (fun _ => true) hD (go_refl _) (fun H' g => .inl (.inl (g _ _ (s1 _ _ ha)))) (sz1000 (by omega)) (fun p v H1 H' L hp go y fin => ?_) fun H1 acc go hD pa => ?_
  · obtain ⟨rfl, r⟩ := y
    exact ⟨rfl, yes ⟨_, rfl, _, p, rfl, mo (kp_of (s1.trans go)) r, hs p hp, fun H2 s2 => fin _ _ s2 rfl⟩⟩
  · refine ⟨D, _, rfl, alls hD pa, ?_⟩
    rw [all_true]
    exact q _ (s1.trans go)
/-! ### is_set_part -/
/-- slots: 0 thing -/
abbrev N_is_set_part : List Str := [Str.ofString "thing"]
theorem sc_is_set_part : FnScope N_is_set_part [Str.ofString "thing"] (defScope s_is_set_part) := ⟨rfl, rfl, rfl, by decide +kernel, rfl, by decide +kernel, by decide +kernel⟩
def S_is_set_part : Sq := fun vs H Q => ∃ (v : V) (p : Str × Str × Int), vs = [v] ∧ rTri rStr rStr rInt H v p ∧ IsNm p.1 ∧ Src p.2.1 ∧ ∀ H', Same H H' → Q (.bl true) H'
theorem r_is_set_part (T : Tx K mg) (c_is_name : Cal P w K mg base 1 "is_name" S_is_name) (c_is_part : Cal P w K mg base 3 "is_part" S_is_part) : FnR P w K mg base CX0 4 (a_is_set_part K) (sp S_is_set_part) := by
  refine fr_of (S := S_is_set_part) (N := N_is_set_part) (f_is_set_part T) sc_is_set_part (fun vs H Q h => by first | (obtain ⟨rfl, _⟩ := h; rfl) | (obtain ⟨_, rfl, _⟩ := h; rfl) | (obtain ⟨_, _, rfl, _⟩ := h; rfl) | (obtain ⟨_, _, _, rfl, _⟩ := h; rfl) | (obtain ⟨_, _, _, _, rfl, _⟩ := h; rfl) | (obtain ⟨_, _, _, _, _, rfl, _⟩ := h; rfl) | (obtain ⟨_, _, _, _, _, _, rfl, _⟩ := h; rfl) | (obtain ⟨_, _, _, _, _, _, _, rfl, _⟩ := h; rfl) | (obtain ⟨_, _, _, _, _, _, _, _, rfl, _⟩ := h; rfl) | (obtain ⟨_, _, _, _, _, _, _, _, _, rfl, _⟩ := h; rfl) | (obtain ⟨_, _, _, _, _, _, _, _, _, _, rfl, _⟩ := h; rfl) | (obtain ⟨_, _, _, _, _, _, _, _, _, _, _, rfl, _⟩ := h; rfl) | (obtain ⟨_, _, _, _, _, _, _, _, _, _, _, _, rfl, _⟩ := h; rfl) | (obtain ⟨_, _, _, _, _, _, _, _, _, _, _, _, _, rfl, _⟩ := h; rfl) | (obtain ⟨_, _, _, _, _, _, _, _, _, _, _, _, _, _, rfl, _⟩ := h; rfl) | (obtain ⟨_, _, _, _, _, _, _, _, _, _, _, _, _, _, _, rfl, _⟩ := h; rfl) | (obtain ⟨_, _, _, _, _, _, _, _, _, _, _, _, _, _, _, _, rfl, _⟩ := h; rfl)) (fun _ _ _ _ _ _ us hl => match us, hl with | [_], _ => rfl) (fun cdv A outer s H vs Q E hr h => ?_)
  obtain ⟨v, p, rfl, ⟨a, x, y, z, rfl, ha, rfl, rfl, rfl⟩, hn, hs, q⟩ := h
  refine ⟨_, (pss_one (ps_ret (pe_and (pe_callB (cIsi K rfl) rfl (n_isinstance T) (by decide +kernel) (pa_cons (pv 0) (pa_cons (pe_bltn (v := .ty "tuple") rfl (n_tuple T) (by decide +kernel) rfl) pa_nil))) (pe_and (pe_cmpR op_eq (pe_callB (cLen K rfl) rfl (n_len T) (by decide +kernel) (pa_cons (pv 0) pa_nil)) pe_int (nomark _)) (pe_and (pcall c_is_name hr (by decide) rfl (pa_cons (pe_ix (ixT K rfl) (pv 0) pe_int (fun _ _ => rfl)) pa_nil)) (pe_one (pcall c_is_part hr (by decide) rfl (pa_cons (pe_slice (slT K rfl) (pv 0) (po_some pe_int) po_none) pa_nil)))))))), ?_⟩
  refine ⟨_, rfl, _, _, _, _, _, rfl, .ty _, .base (.tup ha), kt_tt, true, rfl, iteT ?_⟩
  refine ⟨_, rfl, _, _, rfl, .inr ⟨_, .inl (.inl ha), rfl⟩, rfl, true, bT rfl, iteT ?_⟩
  refine ⟨_, rfl, _, _, _, _, rfl, rfl, .inl (.inl ha), rfl, _, rfl, hn, fun H1 s1 => ⟨true, rfl, iteT ?_⟩⟩
  refine ⟨_, rfl, _, rfl, _, _, rfl, .inl (.inl (s1 _ _ ha)), fun z => absurd z.1 (by show ¬ HT.sIx 3 0 (some 1) = 0; decide), fun _ t ht => ?_⟩
  have s2 : Same H1 (upd H1 t (.tup (cutV [.str p.1, .str p.2.1, .int p.2.2] (some 1) none))) := same_new ht
  exact ⟨_, p.2, rfl, ⟨t, _, _, rfl, upd_same, rfl, rfl⟩, hs, fun H3 s3 => q _ (s1.trans (s2.trans s3))⟩
/-! ### is_set -/
/-- slots: 0 thing, 1 one -/
abbrev N_is_set : List Str := [Str.ofString "thing", Str.ofString "one"]
theorem sc_is_set : FnScope N_is_set [Str.ofString "thing"] (defScope s_is_set) := ⟨rfl, rfl, rfl, by decide +kernel, rfl, by decide +kernel, by decide +kernel⟩
def S_is_set : Sq := fun vs H Q => ∃ (v : V) (l : List (Str × Str × Int)), vs = [v] ∧ rTup (rTri rStr rStr rInt) H v l ∧ l.length ≤ 60 ∧ (l.map (·.1)).Nodup ∧ (∀ p ∈ l, IsNm p.1 ∧ Src p.2.1) ∧ ∀ H', Same H H' → Q (.bl true) H'
theorem r_is_set (T : Tx K mg) (c_is_set_part : Cal P w K mg base 4 "is_set_part" S_is_set_part) (c_are_different : Cal P w K mg base 1 "are_different" S_are_different) : FnR P w K mg base CX0 5 (a_is_set K) (sp S_is_set) := by
  refine fr_of (S := S_is_set) (N := N_is_set) (f_is_set T) sc_is_set (fun vs H Q h => by first | (obtain ⟨rfl, _⟩ := h; rfl) | (obtain ⟨_, rfl, _⟩ := h; rfl) | (obtain ⟨_, _, rfl, _⟩ := h; rfl) | (obtain ⟨_, _, _, rfl, _⟩ := h; rfl) | (obtain ⟨_, _, _, _, rfl, _⟩ := h; rfl) | (obtain ⟨_, _, _, _, _, rfl, _⟩ := h; rfl) | (obtain ⟨_, _, _, _, _, _, rfl, _⟩ := h; rfl) | (obtain ⟨_, _, _, _, _, _, _, rfl, _⟩ := h; rfl) | (obtain ⟨_, _, _, _, _, _, _, _, rfl, _⟩ := h; rfl) | (obtain ⟨_, _, _, _, _, _, _, _, _, rfl, _⟩ := h; rfl) | (obtain ⟨_, _, _, _, _, _, _, _, _, _, rfl, _⟩ := h; rfl) | (obtain ⟨_, _, _, _, _, _, _, _, _, _, _, rfl, _⟩ := h; rfl) | (obtain ⟨_, _, _, _, _, _, _, _, _, _, _, _, rfl, _⟩ := h; rfl) | (obtain ⟨_, _, _, _, _, _, _, _, _, _, _, _, _, rfl, _⟩ := h; rfl) | (obtain ⟨_, _, _, _, _, _, _, _, _, _, _, _, _, _, rfl, _⟩ := h; rfl) | (obtain ⟨_, _, _, _, _, _, _, _, _, _, _, _, _, _, _, rfl, _⟩ := h; rfl) | (obtain ⟨_, _, _, _, _, _, _, _, _, _, _, _, _, _, _, _, rfl, _⟩ := h; rfl)) (fun _ _ _ _ _ _ us hl => match us, hl with | [_], _ => rfl) (fun cdv A outer s H vs Q E hr h => ?_)
  obtain ⟨v, l, rfl, ⟨a, xs, rfl, ha, pa⟩, hl, nd, hs, q⟩ := h
  refine ⟨_, (pss_cons (ps_if (PW.pt (pw_or (pt_not (pt_val (pe_callB (cIsiT K rfl) rfl (n_isinstance T) (by decide +kernel) (pa_cons (pv 0) (pa_cons (pe_tup (pa_cons (pe_bltn (v := .ty "list") rfl (n_list T) (by decide +kernel) rfl) (pa_cons (pe_bltn (v := .ty "tuple") rfl (n_tuple T) (by decide +kernel) rfl) pa_nil))) pa_nil))))) (pw_or1 (pt_not (pt_val (pe_callB (cAll K rfl rfl) rfl (n_all T) (by decide +kernel) (pa_cons (pe_lc (own := [("one", 1)]) (g := gName 1) rfl sc_is_set.nd (piTup K rfl (pv 0)) (blkOk_by (own := [("one", 1)]) (N := N_is_set) (sc := defScope s_is_set) (by decide +kernel)) (fun _ _ _ _ _ => (pg_name (i := 1) sc_is_set.nd rfl (.inl rfl))) (fun _ _ _ _ _ => pts_nil) (fun _ _ _ _ _ => (pcall c_is_set_part hr (by decide) rfl (pa_cons (pv 1) pa_nil)))) pa_nil))))))) (pss_one (ps_ret pe_bl)) pss_nil)
      (pss_one (ps_ret (pcall c_are_different hr (by decide) rfl (pa_cons (pe_lc (own := [("one", 1)]) (g := gName 1) rfl sc_is_set.nd (piTup K rfl (pv 0)) (blkOk_by (own := [("one", 1)]) (N := N_is_set) (sc := defScope s_is_set) (by decide +kernel)) (fun _ _ _ _ _ => (pg_name (i := 1) sc_is_set.nd rfl (.inl rfl))) (fun _ _ _ _ _ => pts_nil) (fun _ _ _ _ _ => (pe_ix (ixT K rfl) (pv 1) pe_int (fun _ _ => rfl)))) pa_nil))))), ?_⟩
  refine ⟨_, rfl, ln2, fun t ht => ?_⟩
  have s1 : Same H (upd H t (.tup [V.ty "list", V.ty "tuple"])) := same_new ht
  obtain ⟨ty, h1, h2⟩ := lt_any (K := K) (xs := xs) ⟨_, .inr (.inr rfl), s1 _ _ ha⟩
  refine ⟨_, _, _, _, _, _, rfl, upd_same, lt_cls, h1, h2, true, rfl, iteF ?_⟩
  refine ⟨_, rfl, a, rfl, ⟨xs, .inl (.inl (s1 _ _ ha))⟩, fun D hD => ?_⟩
  refine lc_m (wd_tup pa) none rBl (fun _ => true) hD (go_refl _) (fun H' g => .inl (.inl (g _ _ (s1 _ _ ha)))) (sz1000 (by omega)) (fun p v H1 H' L hp go y fin => ?_) fun H1 acc go hD pb => ?_
  · obtain ⟨rfl, r⟩ := y
    exact ⟨rfl, yes ⟨_, rfl, _, p, rfl, mo (kp_of (s1.trans go)) r, (hs p hp).1, (hs p hp).2, fun H2 s2 => fin _ _ s2 rfl⟩⟩
  · refine ⟨D, _, rfl, alls hD pb, ?_⟩
    rw [all_true]
    have s3 := s1.trans go
    refine ⟨true, rfl, iteF ⟨_, rfl, a, rfl, ⟨xs, .inl (.inl (s3 _ _ ha))⟩, fun D2 hD2 => ?_⟩⟩
    refine lc_m (wd_tup pa) none rStr (fun p => p.1) hD2 (go_refl _) (fun H' g => .inl (.inl (g _ _ (s3 _ _ ha)))) (sz1000 (by omega)) (fun p v H1' H' L hp go2 y fin => ?_) fun H1' acc2 go2 hD2 pc => ?_
    · obtain ⟨rfl, r⟩ := y
      obtain ⟨b, x1, x2, x3, rfl, hb, rfl, rfl, rfl⟩ := mo (kp_of (s3.trans go2)) r
      exact ⟨rfl, yes ⟨_, rfl, _, _, _, _, rfl, rfl, .inl (.inl hb), rfl, fin _ _ (go_refl _) rfl⟩⟩
    · refine ⟨D2, l.map (·.1), rfl, ⟨_, .inl rfl, by rw [hD2, strs_of pc]⟩, by rw [List.length_map]; omega, nd, fun H4 s4 => q _ (s3.trans (go2.trans s4))⟩
/-! ### is_call -/
/-- slots: 0 thing -/
abbrev N_is_call : List Str := [Str.ofString "thing"]
theorem sc_is_call : FnScope N_is_call [Str.ofString "thing"] (defScope s_is_call) := ⟨rfl, rfl, rfl, by decide +kernel, rfl, by decide +kernel, by decide +kernel⟩
def S_is_call : Sq := fun vs H Q => ∃ (a : Addr) (f : Str) (y z : V) (as : List Part) (rs : List Str), vs = [.ref a] ∧ H a = some (.tup [.str f, y, z]) ∧ rTup rPart H y as ∧ rTup rStr H z rs ∧ SynSm (.call f as rs) ∧ ∀ H', Same H H' → Q (.bl true) H'
theorem r_is_call (T : Tx K mg) (c_is_name : Cal P w K mg base 1 "is_name" S_is_name) (c_are_parts : Cal P w K mg base 4 "are_parts" S_are_parts) (c_are_names : Cal P w K mg base 2 "are_names" S_are_names) : FnR P w K mg base CX0 5 (a_is_call K) (sp S_is_call) := by
  refine fr_of (S := S_is_call) (N := N_is_call) (f_is_call T) sc_is_call (fun vs H Q h => by first | (obtain ⟨rfl, _⟩ := h; rfl) | (obtain ⟨_, rfl, _⟩ := h; rfl) | (obtain ⟨_, _, rfl, _⟩ := h; rfl) | (obtain ⟨_, _, _, rfl, _⟩ := h; rfl) | (obtain ⟨_, _, _, _, rfl, _⟩ := h; rfl) | (obtain ⟨_, _, _, _, _, rfl, _⟩ := h; rfl) | (obtain ⟨_, _, _, _, _, _, rfl, _⟩ := h; rfl) | (obtain ⟨_, _, _, _, _, _, _, rfl, _⟩ := h; rfl) | (obtain ⟨_, _, _, _, _, _, _, _, rfl, _⟩ := h; rfl) | (obtain ⟨_, _, _, _, _, _, _, _, _, rfl, _⟩ := h; rfl) | (obtain ⟨_, _, _, _, _, _, _, _, _, _, rfl, _⟩ := h; rfl) | (obtain ⟨_, _, _, _, _, _, _, _, _, _, _, rfl, _⟩ := h; rfl) | (obtain ⟨_, _, _, _, _, _, _, _, _, _, _, _, rfl, _⟩ := h; rfl) | (obtain ⟨_, _, _, _, _, _, _, _, _, _, _, _, _, rfl, _⟩ := h; rfl) | (obtain ⟨_, _, _, _, _, _, _, _, _, _, _, _, _, _, rfl, _⟩ := h; rfl) | (obtain ⟨_, _, _, _, _, _, _, _, _, _, _, _, _, _, _, rfl, _⟩ := h; rfl) | (obtain ⟨_, _, _, _, _, _, _, _, _, _, _, _, _, _, _, _, rfl, _⟩ := h; rfl)) (fun _ _ _ _ _ _ us hl => match us, hl with | [_], _ => rfl) (fun cdv A outer s H vs Q E hr h => ?_)
  obtain ⟨a, f, y, z, as, rs, rfl, ha, hy, hz, ⟨sf, sa, sr, s1, s2, s3⟩, q⟩ := h
  refine ⟨_, (pss_one (ps_ret (pe_and (pcall c_is_name hr (by decide) rfl (pa_cons (pe_ix (ixT K rfl) (pv 0) pe_int (fun _ _ => rfl)) pa_nil)) (pe_and (pcall c_are_parts hr (by decide) rfl (pa_cons (pe_ix (ixT K rfl) (pv 0) pe_int (fun _ _ => rfl)) pa_nil)) (pe_one (pcall c_are_names hr (by decide) rfl (pa_cons (pe_ix (ixT K rfl) (pv 0) pe_int (fun _ _ => rfl)) pa_nil))))))), ?_⟩
  refine ⟨_, rfl, _, _, _, _, rfl, rfl, .inl (.inl ha), rfl, _, rfl, sf, fun H1 g1 => ⟨true, rfl, iteT ?_⟩⟩
  refine ⟨_, rfl, _, _, _, _, rfl, rfl, .inl (.inl (g1 _ _ ha)), rfl, _, as, rfl, mo (kp_of g1) hy, sa, s1, fun H2 g2 => ⟨true, rfl, iteT ?_⟩⟩
  have g := g1.trans g2
  obtain ⟨b, xs, rfl, hb, pb⟩ := mo (kp_of g) hz
  exact ⟨_, rfl, _, _, _, _, rfl, rfl, .inl (.inl (g _ _ ha)), rfl, b, rs, rfl, ⟨_, .inr (.inr rfl), by rw [hb, strs_of pb]⟩, by omega, s2, s3, fun H3 g3 => q _ (g.trans g3)⟩
/-! ### is_statement -/
/-- slots: 0 thing -/
abbrev N_is_statement : List Str := [Str.ofString "thing"]
theorem sc_is_statement : FnScope N_is_statement [Str.ofString "thing"] (defScope s_is_statement) := ⟨rfl, rfl, rfl, by decide +kernel, rfl, by decide +kernel, by decide +kernel⟩
def S_is_statement : Sq := fun vs H Q => ∃ (v : V) (s : Sm), vs = [v] ∧ rSm H v s ∧ SynSm s ∧ ∀ H', Same H H' → Q (.bl true) H'
theorem r_is_statement (T : Tx K mg) (c_is_set : Cal P w K mg base 5 "is_set" S_is_set) (c_is_name : Cal P w K mg base 1 "is_name" S_is_name) (c_are_parts : Cal P w K mg base 4 "are_parts" S_are_parts) (c_is_call : Cal P w K mg base 5 "is_call" S_is_call) : FnR P w K mg base CX0 6 (a_is_statement K) (sp S_is_statement) := by
  refine fr_of (S := S_is_statement) (N := N_is_statement) (f_is_statement T) sc_is_statement (fun vs H Q h => by first | (obtain ⟨rfl, _⟩ := h; rfl) | (obtain ⟨_, rfl, _⟩ := h; rfl) | (obtain ⟨_, _, rfl, _⟩ := h; rfl) | (obtain ⟨_, _, _, rfl, _⟩ := h; rfl) | (obtain ⟨_, _, _, _, rfl, _⟩ := h; rfl) | (obtain ⟨_, _, _, _, _, rfl, _⟩ := h; rfl) | (obtain ⟨_, _, _, _, _, _, rfl, _⟩ := h; rfl) | (obtain ⟨_, _, _, _, _, _, _, rfl, _⟩ := h; rfl) | (obtain ⟨_, _, _, _, _, _, _, _, rfl, _⟩ := h; rfl) | (obtain ⟨_, _, _, _, _, _, _, _, _, rfl, _⟩ := h; rfl) | (obtain ⟨_, _, _, _, _, _, _, _, _, _, rfl, _⟩ := h; rfl) | (obtain ⟨_, _, _, _, _, _, _, _, _, _, _, rfl, _⟩ := h; rfl) | (obtain ⟨_, _, _, _, _, _, _, _, _, _, _, _, rfl, _⟩ := h; rfl) | (obtain ⟨_, _, _, _, _, _, _, _, _, _, _, _, _, rfl, _⟩ := h; rfl) | (obtain ⟨_, _, _, _, _, _, _, _, _, _, _, _, _, _, rfl, _⟩ := h; rfl) | (obtain ⟨_, _, _, _, _, _, _, _, _, _, _, _, _, _, _, rfl, _⟩ := h; rfl) | (obtain ⟨_, _, _, _, _, _, _, _, _, _, _, _, _, _, _, _, rfl, _⟩ := h; rfl)) (fun _ _ _ _ _ _ us hl => match us, hl with | [_], _ => rfl) (fun cdv A outer s H vs Q E hr h => ?_)
  obtain ⟨v, s, rfl, hv, hs, q⟩ := h
  refine ⟨_, (pss_cons (ps_if (PW.pt (pw_or (pt_not (pt_val (pe_callB (cIsi K rfl) rfl (n_isinstance T) (by decide +kernel) (pa_cons (pv 0) (pa_cons (pe_bltn (v := .ty "tuple") rfl (n_tuple T) (by decide +kernel) rfl) pa_nil))))) (pw_or (pt_cmpR op_eq (pe_callB (cLen K rfl) rfl (n_len T) (by decide +kernel) (pa_cons (pv 0) pa_nil)) pe_int (nomark _)) (pw_or1 (pt_not (pt_val (pe_callB (cIsi K rfl) rfl (n_isinstance T) (by decide +kernel) (pa_cons (pe_ix (ixT K rfl) (pv 0) pe_int (fun _ _ => rfl)) (pa_cons (pe_bltn (v := .ty "str") rfl (n_str T) (by decide +kernel) rfl) pa_nil))))))))) (pss_one (ps_ret pe_bl)) pss_nil)
      (pss_cons (ps_if (pt_cmpR op_eq (pe_ix (ixT K rfl) (pv 0) pe_int (fun _ _ => rfl)) pe_str (nomark _)) (pss_one (ps_ret (pe_cmpR op_eq (pe_callB (cLen K rfl) rfl (n_len T) (by decide +kernel) (pa_cons (pv 0) pa_nil)) pe_int (nomark _)))) pss_nil)
      (pss_cons (ps_if (pt_cmpR op_eq (pe_ix (ixT K rfl) (pv 0) pe_int (fun _ _ => rfl)) pe_str (nomark _)) (pss_one (ps_ret (pe_and (pe_cmpR op_eq (pe_callB (cLen K rfl) rfl (n_len T) (by decide +kernel) (pa_cons (pv 0) pa_nil)) pe_int (nomark _)) (pe_one (pcall c_is_set hr (by decide) rfl (pa_cons (pe_ix (ixT K rfl) (pv 0) pe_int (fun _ _ => rfl)) pa_nil)))))) pss_nil)
      (pss_cons (ps_if (pt_cmpR (inSq K rfl) (pe_ix (ixT K rfl) (pv 0) pe_int (fun _ _ => rfl)) (pe_tup (pa_cons pe_str (pa_cons pe_str pa_nil))) (by rfl)) (pss_one (ps_ret (pe_and (pe_cmpR op_eq (pe_callB (cLen K rfl) rfl (n_len T) (by decide +kernel) (pa_cons (pv 0) pa_nil)) pe_int (nomark _)) (pe_and (pcall c_is_name hr (by decide) rfl (pa_cons (pe_ix (ixT K rfl) (pv 0) pe_int (fun _ _ => rfl)) pa_nil)) (pe_and (pcall c_are_parts hr (by decide) rfl (pa_cons (pe_ix (ixT K rfl) (pv 0) pe_int (fun _ _ => rfl)) pa_nil)) (pe_one (pe_cmpR op_gt (pe_callB (cLen K rfl) rfl (n_len T) (by decide +kernel) (pa_cons (pe_ix (ixT K rfl) (pv 0) pe_int (fun _ _ => rfl)) pa_nil)) pe_int (nomark _)))))))) pss_nil)
      (pss_one (ps_ret (pe_and (pe_cmpR op_eq (pe_ix (ixT K rfl) (pv 0) pe_int (fun _ _ => rfl)) pe_str (nomark _)) (pe_and (pe_cmpR op_eq (pe_callB (cLen K rfl) rfl (n_len T) (by decide +kernel) (pa_cons (pv 0) pa_nil)) pe_int (nomark _)) (pe_one (pcall c_is_call hr (by decide) rfl (pa_cons (pe_slice (slT K rfl) (pv 0) (po_some pe_int) po_none) pa_nil))))))))))), ?_⟩
  obtain ⟨a, rest, rfl, ha⟩ := hv.head
  refine ⟨_, rfl, _, _, _, _, _, rfl, .ty _, .base (.tup ha), kt_tt, true, rfl, iteF ?_⟩
  refine ⟨_, rfl, _, _, rfl, .inr ⟨_, .inl (.inl ha), rfl⟩, rfl, false, bF (fun z => ?_), iteF ?_⟩
  · have := V.int.inj z
    rw [List.length_cons] at this
    omega
  refine ⟨_, rfl, _, _, _, _, rfl, rfl, .inl (.inl ha), at0, _, _, _, _, _, rfl, .ty _, .base (.str _), kt_ss, true, rfl, iteF ?_⟩
  refine ⟨_, rfl, _, _, _, _, rfl, rfl, .inl (.inl ha), at0, rfl, ?_⟩
  cases s with
  | skip =>
    obtain ⟨a', e, h⟩ := hv
    cases e
    exact ⟨true, sT rfl, iteT ⟨_, rfl, _, _, rfl, .inr ⟨_, .inl (.inl h), rfl⟩, rfl, q _ (Same.refl H)⟩⟩
  | sets xs =>
    obtain ⟨a', y, e, h, hy⟩ := hv
    cases e
    refine ⟨false, sF (wo_ss xs), iteF ?_⟩
    refine ⟨_, rfl, _, _, _, _, rfl, rfl, .inl (.inl ha), at0, rfl, true, sT rfl, iteT ?_⟩
    refine ⟨_, rfl, _, _, rfl, .inr ⟨_, .inl (.inl h), rfl⟩, rfl, true, bT rfl, iteT ?_⟩
    exact ⟨_, rfl, _, _, _, _, rfl, rfl, .inl (.inl h), rfl, _, xs, rfl, hy, hs.1, hs.2.1, hs.2.2, q⟩
  | mx hi x ps =>
    obtain ⟨a', y, e, h, hy⟩ := hv
    cases e
    obtain ⟨hx, hne, hl, hp⟩ := hs
    have w1 : wordOf (.mx hi x ps) ≠ "skip" := wo_ms hi x ps
    have w2 := wo_mt hi x ps
    have w3 := wo_mi hi x ps
    refine ⟨false, sF w1, iteF ?_⟩
    refine ⟨_, rfl, _, _, _, _, rfl, rfl, .inl (.inl ha), at0, rfl, false, sF w2, iteF ?_⟩
    refine ⟨_, rfl, _, _, _, _, rfl, rfl, .inl (.inl ha), at0, ln2, fun t ht => ?_⟩
    have s1 : Same H (upd H t (.tup [V.str "most", V.str "least"])) := same_new ht
    refine ⟨t, _, rfl, .inr (.inl (.inl upd_same)), rfl, rfl, true, ?_, iteT ?_⟩
    · have e := inV_strs (wordOf (.mx hi x ps)) ["most", "least"]
      rw [decide_eq_true w3] at e
      rw [if_neg Bool.false_ne_true]
      exact congrArg V.bl e
    refine ⟨_, rfl, _, _, rfl, .inr ⟨_, .inl (.inl (s1 _ _ h)), rfl⟩, rfl, true, bT rfl, iteT ?_⟩
    refine ⟨_, rfl, _, _, _, _, rfl, rfl, .inl (.inl (s1 _ _ h)), rfl, _, rfl, hx, fun H2 s2 => ⟨true, rfl, iteT ?_⟩⟩
    have g2 := s1.trans s2
    refine ⟨_, rfl, _, _, _, _, rfl, rfl, .inl (.inl (g2 _ _ h)), rfl, _, ps, rfl, mo (kp_of g2) hy, hl, hp, fun H3 s3 => ⟨true, rfl, iteT ?_⟩⟩
    have g3 := g2.trans s3
    obtain ⟨b, xs, rfl, hb, pb⟩ := mo (kp_of g3) hy
    refine ⟨_, rfl, _, _, _, _, rfl, rfl, .inl (.inl (g3 _ _ h)), rfl, _, _, rfl, .inr ⟨_, .inl (.inl hb), rfl⟩, _, _, rfl, rfl, ?_⟩
    have : (0 : Int) < ((xs.length : Nat) : Int) := by
      rw [Paired.length pb]
      cases ps with
      | nil => exact absurd rfl hne
      | cons p r => simp
    have e2 := q _ g3
    rw [show V.bl true = V.bl (decide ((0 : Int) < ((xs.length : Nat) : Int))) from (bT this).symm] at e2
    exact e2
  | call f as rs =>
    obtain ⟨a', y, z, e, h, hy, hz⟩ := hv
    cases e
    refine ⟨false, sF (wo_cs f as rs), iteF ?_⟩
    refine ⟨_, rfl, _, _, _, _, rfl, rfl, .inl (.inl ha), at0, rfl, false, sF (wo_ct f as rs), iteF ?_⟩
    refine ⟨_, rfl, _, _, _, _, rfl, rfl, .inl (.inl ha), at0, ln2, fun t ht => ?_⟩
    have s1 : Same H (upd H t (.tup [V.str "most", V.str "least"])) := same_new ht
    refine ⟨t, _, rfl, .inr (.inl (.inl upd_same)), rfl, rfl, false, ?_, iteF ?_⟩
    · have e := inV_strs (wordOf (.call f as rs)) ["most", "least"]
      rw [decide_eq_false (wo_ci f as rs)] at e
      rw [if_neg Bool.false_ne_true]
      exact congrArg V.bl e
    refine ⟨_, rfl, _, _, _, _, rfl, rfl, .inl (.inl (s1 _ _ ha)), at0, rfl, true, sT rfl, iteT ?_⟩
    refine ⟨_, rfl, _, _, rfl, .inr ⟨_, .inl (.inl (s1 _ _ h)), rfl⟩, rfl, true, bT rfl, iteT ?_⟩
    refine ⟨_, rfl, _, rfl, _, _, rfl, .inl (.inl (s1 _ _ h)), fun z => absurd z.1 (by show ¬ HT.sIx 4 0 (some 1) = 0; decide), fun _ t2 ht2 => ?_⟩
    have s2 : Same (upd H t (.tup [V.str "most", V.str "least"])) (upd (upd H t (.tup [V.str "most", V.str "least"])) t2 (.tup (cutV [.str "call", .str f, y, z] (some 1) none))) := same_new ht2
    have g := s1.trans s2
    exact ⟨t2, f, y, z, as, rs, rfl, upd_same, mo (kp_of g) hy, mo (kp_of g) hz, hs, fun H3 s3 => q _ (g.trans s3)⟩
/-! ### frozen -/
/-- slots: 0 statement, 1 one -/
abbrev N_frozen : List Str := [Str.ofString "statement", Str.ofString "one"]
theorem sc_frozen : FnScope N_frozen [Str.ofString "statement"] (defScope s_frozen) := ⟨rfl, rfl, rfl, by decide +kernel, rfl, by decide +kernel, by decide +kernel⟩
def S_frozen : Sq := fun vs H Q => ∃ (v : V) (s : Sm), vs = [v] ∧ rSm H v s ∧ ∀ v' H', Same H H' → rSm H' v' s → Q v' H'
theorem frozen_items {H : Hp} {v : V} {s : Sm} (h : rSm H v s) : ∃ a xs, v = .ref a ∧ H a = some (.tup xs) ∧ xs.length ≤ 4 ∧ (∀ x ∈ xs, (∃ z, x = .str z) ∨ ∃ b ys, x = .ref b ∧ H b = some (.tup ys)) ∧ ∀ H' c, Keep H H' → H' c = some (.tup xs) → rSm H' (.ref c) s := by
  cases s with
  | skip =>
    obtain ⟨a, e, h⟩ := h
    exact ⟨a, _, e, h, by decide, fun x hx => .inl ⟨_, List.mem_singleton.mp hx⟩, fun H' c k hc => ⟨c, rfl, hc⟩⟩
  | sets xs =>
    obtain ⟨a, w, e, h, hw⟩ := h
    obtain ⟨b, ys, rfl, hb, pb⟩ := id hw
    refine ⟨a, _, e, h, by show 2 ≤ 4; decide, fun x hx => ?_, fun H' c k hc => ⟨c, _, rfl, hc, mo k hw⟩⟩
    rcases List.mem_cons.mp hx with e | hx
    · exact .inl ⟨_, e⟩
    · exact .inr ⟨b, ys, List.mem_singleton.mp hx, hb⟩
  | mx hi x ps =>
    obtain ⟨a, w, e, h, hw⟩ := h
    obtain ⟨b, ys, rfl, hb, pb⟩ := id hw
    refine ⟨a, _, e, h, by show 3 ≤ 4; decide, fun x hx => ?_, fun H' c k hc => ⟨c, _, rfl, hc, mo k hw⟩⟩
    rcases List.mem_cons.mp hx with e | hx
    · exact .inl ⟨_, e⟩
    rcases List.mem_cons.mp hx with e | hx
    · exact .inl ⟨_, e⟩
    · exact .inr ⟨b, ys, List.mem_singleton.mp hx, hb⟩
  | call f as rs =>
    obtain ⟨a, w, u, e, h, hw, hu⟩ := h
    obtain ⟨b, ys, rfl, hb, pb⟩ := id hw
    obtain ⟨b2, ys2, rfl, hb2, pb2⟩ := id hu
    refine ⟨a, _, e, h, by show 4 ≤ 4; decide, fun x hx => ?_, fun H' c k hc => ⟨c, _, _, rfl, hc, mo k hw, mo k hu⟩⟩
    rcases List.mem_cons.mp hx with e | hx
    · exact .inl ⟨_, e⟩
    rcases List.mem_cons.mp hx with e | hx
    · exact .inl ⟨_, e⟩
    rcases List.mem_cons.mp hx with e | hx
    · exact .inr ⟨b, ys, e, hb⟩
    · exact .inr ⟨b2, ys2, List.mem_singleton.mp hx, hb2⟩
theorem r_frozen (T : Tx K mg) : FnR P w K mg base CX0 1 (a_frozen K) (sp S_frozen) := by
  refine fr_of (S := S_frozen) (N := N_frozen) (f_frozen T) sc_frozen (fun vs H Q h => by first | (obtain ⟨rfl, _⟩ := h; rfl) | (obtain ⟨_, rfl, _⟩ := h; rfl) | (obtain ⟨_, _, rfl, _⟩ := h; rfl) | (obtain ⟨_, _, _, rfl, _⟩ := h; rfl) | (obtain ⟨_, _, _, _, rfl, _⟩ := h; rfl) | (obtain ⟨_, _, _, _, _, rfl, _⟩ := h; rfl) | (obtain ⟨_, _, _, _, _, _, rfl, _⟩ := h; rfl) | (obtain ⟨_, _, _, _, _, _, _, rfl, _⟩ := h; rfl) | (obtain ⟨_, _, _, _, _, _, _, _, rfl, _⟩ := h; rfl) | (obtain ⟨_, _, _, _, _, _, _, _, _, rfl, _⟩ := h; rfl) | (obtain ⟨_, _, _, _, _, _, _, _, _, _, rfl, _⟩ := h; rfl) | (obtain ⟨_, _, _, _, _, _, _, _, _, _, _, rfl, _⟩ := h; rfl) | (obtain ⟨_, _, _, _, _, _, _, _, _, _, _, _, rfl, _⟩ := h; rfl) | (obtain ⟨_, _, _, _, _, _, _, _, _, _, _, _, _, rfl, _⟩ := h; rfl) | (obtain ⟨_, _, _, _, _, _, _, _, _, _, _, _, _, _, rfl, _⟩ := h; rfl) | (obtain ⟨_, _, _, _, _, _, _, _, _, _, _, _, _, _, _, rfl, _⟩ := h; rfl) | (obtain ⟨_, _, _, _, _, _, _, _, _, _, _, _, _, _, _, _, rfl, _⟩ := h; rfl)) (fun _ _ _ _ _ _ us hl => match us, hl with | [_], _ => rfl) (fun cdv A outer s H vs Q E hr h => ?_)
  obtain ⟨v, s, rfl, hv, q⟩ := h
  refine ⟨_, (pss_one (ps_ret (pe_callTy (cTup K rfl) rfl (n_tuple T) (by decide +kernel) (pa_cons (pe_lc (own := [("one", 1)]) (g := gName 1) rfl sc_frozen.nd (piTup K rfl (pv 0)) (blkOk_by (own := [("one", 1)]) (N := N_frozen) (sc := defScope s_frozen) (by decide +kernel)) (fun _ _ _ _ _ => (pg_name (i := 1) sc_frozen.nd rfl (.inl rfl))) (fun _ _ _ _ _ => pts_nil) (fun _ _ _ _ _ => (pe_ifExp (pt_val (pe_callB (cIsi K rfl) rfl (n_isinstance T) (by decide +kernel) (pa_cons (pv 1) (pa_cons (pe_bltn (v := .ty "list") rfl (n_list T) (by decide +kernel) rfl) pa_nil)))) (pe_callTy (cTup K rfl) rfl (n_tuple T) (by decide +kernel) (pa_cons (pv 1) pa_nil)) (pv 1)))) pa_nil)))), ?_⟩
  obtain ⟨a, xs, rfl, ha, hl, hx, hr⟩ := frozen_items hv
  refine ⟨_, rfl, a, rfl, ⟨xs, .inl (.inl ha)⟩, fun D hD => ?_⟩
  refine lc_m (wd_tup (of_self (H := H) xs)) none rSelf (fun x => x) hD (go_refl _) (fun H' g => .inl (.inl (g _ _ ha))) (sz1000 (by omega)) (fun x v H1 H' L hp go y fin => ?_) fun H1 acc go hD pa => ?_
  · obtain ⟨rfl, r⟩ := y
    obtain rfl : v = x := r
    refine ⟨rfl, yes ?_⟩
    rcases hx v hp with ⟨z, rfl⟩ | ⟨b, ys, rfl, hb⟩
    · exact ⟨_, rfl, _, _, _, _, _, rfl, .ty _, .base (.str _), kt_sl, false, rfl, iteF ⟨_, rfl, fin _ _ (go_refl _) rfl⟩⟩
    · exact ⟨_, rfl, _, _, _, _, _, rfl, .ty _, .base (.tup (go _ _ hb)), kt_tl, false, rfl, iteF ⟨_, rfl, fin _ _ (go_refl _) rfl⟩⟩
  · rw [List.map_id', ] at pa
    have e := self_of pa
    subst e
    refine ⟨D, acc, rfl, .inl ⟨.inl (.inl hD), fun l hl => ?_⟩⟩
    have s2 : Same H1 (upd H1 l (.tup acc)) := same_new hl
    exact q _ _ (Same.trans go s2) (hr _ _ (kp_of (Same.trans go s2)) upd_same)
/-! ### sets, parts_of -/
/-- slots: 0 statement, 1 x, 2 y, 3 c -/
abbrev N_sets : List Str := [Str.ofString "statement", Str.ofString "x", Str.ofString "y", Str.ofString "c"]
theorem sc_sets : FnScope N_sets [Str.ofString "statement"] (defScope s_sets) := ⟨rfl, rfl, rfl, by decide +kernel, rfl, by decide +kernel, by decide +kernel⟩
def S_sets : Sq := fun vs H Q => ∃ (v : V) (s : Sm), vs = [v] ∧ rSm H v s ∧ SynSm s ∧ ∀ v' H', Same H H' → rLst rStr H' v' (setsOf s) → Q v' H'
theorem r_sets (T : Tx K mg) : FnR P w K mg base CX0 1 (a_sets K) (sp S_sets) := by
  refine fr_of (S := S_sets) (N := N_sets) (f_sets T) sc_sets (fun vs H Q h => by first | (obtain ⟨rfl, _⟩ := h; rfl) | (obtain ⟨_, rfl, _⟩ := h; rfl) | (obtain ⟨_, _, rfl, _⟩ := h; rfl) | (obtain ⟨_, _, _, rfl, _⟩ := h; rfl) | (obtain ⟨_, _, _, _, rfl, _⟩ := h; rfl) | (obtain ⟨_, _, _, _, _, rfl, _⟩ := h; rfl) | (obtain ⟨_, _, _, _, _, _, rfl, _⟩ := h; rfl) | (obtain ⟨_, _, _, _, _, _, _, rfl, _⟩ := h; rfl) | (obtain ⟨_, _, _, _, _, _, _, _, rfl, _⟩ := h; rfl) | (obtain ⟨_, _, _, _, _, _, _, _, _, rfl, _⟩ := h; rfl) | (obtain ⟨_, _, _, _, _, _, _, _, _, _, rfl, _⟩ := h; rfl) | (obtain ⟨_, _, _, _, _, _, _, _, _, _, _, rfl, _⟩ := h; rfl) | (obtain ⟨_, _, _, _, _, _, _, _, _, _, _, _, rfl, _⟩ := h; rfl) | (obtain ⟨_, _, _, _, _, _, _, _, _, _, _, _, _, rfl, _⟩ := h; rfl) | (obtain ⟨_, _, _, _, _, _, _, _, _, _, _, _, _, _, rfl, _⟩ := h; rfl) | (obtain ⟨_, _, _, _, _, _, _, _, _, _, _, _, _, _, _, rfl, _⟩ := h; rfl) | (obtain ⟨_, _, _, _, _, _, _, _, _, _, _, _, _, _, _, _, rfl, _⟩ := h; rfl)) (fun _ _ _ _ _ _ us hl => match us, hl with | [_], _ => rfl) (fun cdv A outer s H vs Q E hr h => ?_)
  obtain ⟨v, s, rfl, hv, hs, q⟩ := h
  refine ⟨_, (pss_cons (ps_if (pt_cmpR op_eq (pe_ix (ixT K rfl) (pv 0) pe_int (fun _ _ => rfl)) pe_str (nomark _)) (pss_one (ps_ret (pe_fz (pe_lst pa_nil)))) pss_nil)
      (pss_cons (ps_if (pt_cmpR op_eq (pe_ix (ixT K rfl) (pv 0) pe_int (fun _ _ => rfl)) pe_str (nomark _)) (pss_one (ps_ret (pe_fz (pe_callB (cSortS K rfl) rfl (n_sorted T) (by decide +kernel) (pa_cons (pe_lc (own := [("x", 1), ("y", 2), ("c", 3)]) rfl sc_sets.nd (piTup K rfl (pe_ix (ixT K rfl) (pv 0) pe_int (fun _ _ => rfl))) (blkOk_by (own := [("x", 1), ("y", 2), ("c", 3)]) (N := N_sets) (sc := defScope s_sets) (by decide +kernel)) (fun _ _ _ _ _ => (pgTup (n := 3) K rfl rfl (pgs_cons (pg_name (i := 1) sc_sets.nd rfl (.inl rfl)) (pgs_cons (pg_name (i := 2) sc_sets.nd rfl (.inl rfl)) (pgs_cons (pg_name (i := 3) sc_sets.nd rfl (.inl rfl)) pgs_nil))))) (fun _ _ _ _ _ => pts_nil) (fun _ _ _ _ _ => (pv 1))) pa_nil))))) pss_nil)
      (pss_cons (ps_if (pt_cmpR op_eq (pe_ix (ixT K rfl) (pv 0) pe_int (fun _ _ => rfl)) pe_str (nomark _)) (pss_one (ps_ret (pe_fz (pe_callB (cSortT K rfl) rfl (n_sorted T) (by decide +kernel) (pa_cons (pe_ix (ixT K rfl) (pv 0) pe_int (fun _ _ => rfl)) pa_nil))))) pss_nil)
      (pss_one (ps_ret (pe_fz (pe_lst (pa_cons (pe_ix (ixT K rfl) (pv 0) pe_int (fun _ _ => rfl)) pa_nil)))))))), ?_⟩
  obtain ⟨a, rest, rfl, ha⟩ := hv.head
  have fin : ∀ (H1 : Hp) (D : Addr) (zs : List Str), Same H H1 → H1 D = none → setsOf s = zs → tFz (fun _ _ Q => Q (.ref D) (upd H1 D (.lst (zs.map V.str)))) [] H1 Q := by
    intro H1 D zs g hD e
    refine ⟨D, _, rfl, upd_same, trivial, fun od => ?_⟩
    rw [upd_upd]
    exact q _ _ (g.trans (same_new hD)) ⟨D, od, _, rfl, upd_same, by rw [e]; exact of_strs zs⟩
  refine ⟨_, rfl, _, _, _, _, rfl, rfl, .inl (.inl ha), at0, rfl, ?_⟩
  cases s with
  | skip =>
    refine ⟨true, sT rfl, iteT ⟨Nat.zero_le _, fun l hl => ?_⟩⟩
    exact fin H l [] (Same.refl H) hl rfl
  | sets xs =>
    obtain ⟨a', y, e, h, hy⟩ := hv
    cases e
    refine ⟨false, sF (wo_ss xs), iteF ?_⟩
    refine ⟨_, rfl, _, _, _, _, rfl, rfl, .inl (.inl ha), at0, rfl, true, sT rfl, iteT ?_⟩
    obtain ⟨b, ys, rfl, hb, pb⟩ := hy
    refine ⟨_, rfl, _, _, _, _, rfl, rfl, .inl (.inl h), rfl, b, rfl, ⟨ys, .inl (.inl hb)⟩, fun D hD => ?_⟩
    refine lc_m (wd_tup pb) none rStr (fun p => p.1) hD (go_refl _) (fun H' g => .inl (.inl (g _ _ hb))) (sz1000 (by have := hs.1; omega)) (fun p v H1 H' L hp go y fin => ?_) fun H1 acc go hD pc => ?_
    · obtain ⟨rfl, r⟩ := y
      obtain ⟨c, x1, x2, x3, rfl, hc, rfl, rfl, rfl⟩ := mo (kp_of go) r
      exact ⟨_, _, rfl, .inl (.inl hc), rfl, _, _, rfl, _, _, rfl, _, _, rfl, rfl, rfl, yes ⟨_, rfl, fin _ _ (go_refl _) rfl⟩⟩
    · refine ⟨D, xs.map (·.1), rfl, .inl (.inl (by rw [hD, strs_of pc])), by rw [List.length_map]; have := hs.1; omega, fun zs p hz hz2 hp => ?_⟩
      exact fin H1 p zs go hp (srt_eq hz hz2).symm
  | mx hi x ps =>
    obtain ⟨a', y, e, h, hy⟩ := hv
    cases e
    have w1 : wordOf (.mx hi x ps) ≠ "skip" := wo_ms hi x ps
    have w2 := wo_mt hi x ps
    have w3 := wo_mc hi x ps
    refine ⟨false, sF w1, iteF ?_⟩
    refine ⟨_, rfl, _, _, _, _, rfl, rfl, .inl (.inl ha), at0, rfl, false, sF w2, iteF ?_⟩
    refine ⟨_, rfl, _, _, _, _, rfl, rfl, .inl (.inl ha), at0, rfl, false, sF w3, iteF ?_⟩
    refine ⟨_, rfl, _, _, _, _, rfl, rfl, .inl (.inl h), rfl, ln1, fun l hl => ?_⟩
    exact fin H l [x] (Same.refl H) hl rfl
  | call f as rs =>
    obtain ⟨a', y, z, e, h, hy, hz⟩ := hv
    cases e
    refine ⟨false, sF (wo_cs f as rs), iteF ?_⟩
    refine ⟨_, rfl, _, _, _, _, rfl, rfl, .inl (.inl ha), at0, rfl, false, sF (wo_ct f as rs), iteF ?_⟩
    refine ⟨_, rfl, _, _, _, _, rfl, rfl, .inl (.inl ha), at0, rfl, true, sT rfl, iteT ?_⟩
    obtain ⟨b, ys, rfl, hb, pb⟩ := hz
    refine ⟨_, rfl, _, _, _, _, rfl, rfl, .inl (.inl h), at3, b, rs, rfl, .inl (.inl (by rw [hb, strs_of pb])), by have := hs.2.2.1; omega, fun zs p hz hz2 hp => ?_⟩
    exact fin H p zs (Same.refl H) hp (srt_eq hz hz2).symm
/-! ### parts_of -/
/-- slots: 0 statement, 1 x, 2 y, 3 c -/
abbrev N_parts_of : List Str := [Str.ofString "statement", Str.ofString "x", Str.ofString "y", Str.ofString "c"]
theorem sc_parts_of : FnScope N_parts_of [Str.ofString "statement"] (defScope s_parts_of) := ⟨rfl, rfl, rfl, by decide +kernel, rfl, by decide +kernel, by decide +kernel⟩
def S_parts_of : Sq := fun vs H Q => ∃ (v : V) (s : Sm), vs = [v] ∧ rSm H v s ∧ SynSm s ∧ ∀ v' H', Same H H' → rLst rPart H' v' (partsOf s) → Q v' H'
theorem r_parts_of (T : Tx K mg) : FnR P w K mg base CX0 1 (a_parts_of K) (sp S_parts_of) := by
  refine fr_of (S := S_parts_of) (N := N_parts_of) (f_parts_of T) sc_parts_of (fun vs H Q h => by first | (obtain ⟨rfl, _⟩ := h; rfl) | (obtain ⟨_, rfl, _⟩ := h; rfl) | (obtain ⟨_, _, rfl, _⟩ := h; rfl) | (obtain ⟨_, _, _, rfl, _⟩ := h; rfl) | (obtain ⟨_, _, _, _, rfl, _⟩ := h; rfl) | (obtain ⟨_, _, _, _, _, rfl, _⟩ := h; rfl) | (obtain ⟨_, _, _, _, _, _, rfl, _⟩ := h; rfl) | (obtain ⟨_, _, _, _, _, _, _, rfl, _⟩ := h; rfl) | (obtain ⟨_, _, _, _, _, _, _, _, rfl, _⟩ := h; rfl) | (obtain ⟨_, _, _, _, _, _, _, _, _, rfl, _⟩ := h; rfl) | (obtain ⟨_, _, _, _, _, _, _, _, _, _, rfl, _⟩ := h; rfl) | (obtain ⟨_, _, _, _, _, _, _, _, _, _, _, rfl, _⟩ := h; rfl) | (obtain ⟨_, _, _, _, _, _, _, _, _, _, _, _, rfl, _⟩ := h; rfl) | (obtain ⟨_, _, _, _, _, _, _, _, _, _, _, _, _, rfl, _⟩ := h; rfl) | (obtain ⟨_, _, _, _, _, _, _, _, _, _, _, _, _, _, rfl, _⟩ := h; rfl) | (obtain ⟨_, _, _, _, _, _, _, _, _, _, _, _, _, _, _, rfl, _⟩ := h; rfl) | (obtain ⟨_, _, _, _, _, _, _, _, _, _, _, _, _, _, _, _, rfl, _⟩ := h; rfl)) (fun _ _ _ _ _ _ us hl => match us, hl with | [_], _ => rfl) (fun cdv A outer s H vs Q E hr h => ?_)
  obtain ⟨v, s, rfl, hv, hs, q⟩ := h
  refine ⟨_, (pss_cons (ps_if (pt_cmpR op_eq (pe_ix (ixT K rfl) (pv 0) pe_int (fun _ _ => rfl)) pe_str (nomark _)) (pss_one (ps_ret (pe_fz (pe_lst pa_nil)))) pss_nil)
      (pss_cons (ps_if (pt_cmpR op_eq (pe_ix (ixT K rfl) (pv 0) pe_int (fun _ _ => rfl)) pe_str (nomark _)) (pss_one (ps_ret (pe_fz (pe_lc (own := [("x", 1), ("y", 2), ("c", 3)]) rfl sc_parts_of.nd (piTup K rfl (pe_ix (ixT K rfl) (pv 0) pe_int (fun _ _ => rfl))) (blkOk_by (own := [("x", 1), ("y", 2), ("c", 3)]) (N := N_parts_of) (sc := defScope s_parts_of) (by decide +kernel)) (fun _ _ _ _ _ => (pgTup (n := 3) K rfl rfl (pgs_cons (pg_name (i := 1) sc_parts_of.nd rfl (.inl rfl)) (pgs_cons (pg_name (i := 2) sc_parts_of.nd rfl (.inl rfl)) (pgs_cons (pg_name (i := 3) sc_parts_of.nd rfl (.inl rfl)) pgs_nil))))) (fun _ _ _ _ _ => pts_nil) (fun _ _ _ _ _ => (pe_tup (pa_cons (pv 2) (pa_cons (pv 3) pa_nil)))))))) pss_nil)
      (pss_one (ps_ret (pe_fz (pe_callTy (cLst K rfl) rfl (n_list T) (by decide +kernel) (pa_cons (pe_ix (ixT K rfl) (pv 0) pe_int (fun _ _ => rfl)) pa_nil))))))), ?_⟩
  obtain ⟨a, rest, rfl, ha⟩ := hv.head
  have fin : ∀ (H1 : Hp) (D : Addr) (vs : List V), Same H H1 → H1 D = none → Paired (rPart H1) vs (partsOf s) → tFz (fun _ _ Q => Q (.ref D) (upd H1 D (.lst vs))) [] H1 Q := by
    intro H1 D vs g hD e
    refine ⟨D, _, rfl, upd_same, trivial, fun od => ?_⟩
    rw [upd_upd]
    exact q _ _ (g.trans (same_new hD)) ⟨D, od, _, rfl, upd_same, mos (kp_new hD) e⟩
  refine ⟨_, rfl, _, _, _, _, rfl, rfl, .inl (.inl ha), at0, rfl, ?_⟩
  cases s with
  | skip =>
    refine ⟨true, sT rfl, iteT ⟨Nat.zero_le _, fun l hl => ?_⟩⟩
    exact fin H l [] (Same.refl H) hl .nil
  | sets xs =>
    obtain ⟨a', y, e, h, hy⟩ := hv
    cases e
    refine ⟨false, sF (wo_ss xs), iteF ?_⟩
    refine ⟨_, rfl, _, _, _, _, rfl, rfl, .inl (.inl ha), at0, rfl, true, sT rfl, iteT ?_⟩
    obtain ⟨b, ys, rfl, hb, pb⟩ := hy
    refine ⟨_, rfl, _, _, _, _, rfl, rfl, .inl (.inl h), at1, b, rfl, ⟨ys, .inl (.inl hb)⟩, fun D hD => ?_⟩
    refine lc_m (wd_tup pb) none rPart (fun p => p.2) hD (go_refl _) (fun H' g => .inl (.inl (g _ _ hb))) (sz1000 (by have := hs.1; omega)) (fun p v H1 H' L hp go y fin => ?_) fun H1 acc go hD pc => ?_
    · obtain ⟨rfl, r⟩ := y
      obtain ⟨c, x1, x2, x3, rfl, hc, rfl, rfl, rfl⟩ := mo (kp_of go) r
      refine ⟨_, _, rfl, .inl (.inl hc), rfl, _, _, rfl, _, _, rfl, _, _, rfl, rfl, rfl, yes ⟨_, rfl, _, rfl, ln2, fun t ht => ?_⟩⟩
      exact fin _ _ (same_new ht) ⟨t, _, _, rfl, upd_same, rfl, rfl⟩
    · refine ⟨D, _, rfl, hD, trivial, fun od => ?_⟩
      exact q _ _ (Same.mut go (by assumption)) ⟨D, od, _, rfl, upd_same, mos (kp_mut hD (fun z => z)) pc⟩
  | mx hi x ps =>
    obtain ⟨a', y, e, h, hy⟩ := hv
    cases e
    refine ⟨false, sF (wo_ms hi x ps), iteF ?_⟩
    refine ⟨_, rfl, _, _, _, _, rfl, rfl, .inl (.inl ha), at0, rfl, false, sF (wo_mt hi x ps), iteF ?_⟩
    obtain ⟨b, ys, rfl, hb, pb⟩ := hy
    refine ⟨_, rfl, _, _, _, _, rfl, rfl, .inl (.inl h), at2, b, ys, rfl, .inr (.inl (.inl hb)), fun l hl => ?_⟩
    exact fin H l ys (Same.refl H) hl pb
  | call f as rs =>
    obtain ⟨a', y, z, e, h, hy, hz⟩ := hv
    cases e
    refine ⟨false, sF (wo_cs f as rs), iteF ?_⟩
    refine ⟨_, rfl, _, _, _, _, rfl, rfl, .inl (.inl ha), at0, rfl, false, sF (wo_ct f as rs), iteF ?_⟩
    obtain ⟨b, ys, rfl, hb, pb⟩ := hy
    refine ⟨_, rfl, _, _, _, _, rfl, rfl, .inl (.inl h), at2, b, ys, rfl, .inr (.inl (.inl hb)), fun l hl => ?_⟩
    exact fin H l ys (Same.refl H) hl pb
/-! ### are_different -/
/-- slots: 0 things -/
abbrev N_are_different : List Str := [Str.ofString "things"]
theorem sc_are_different : FnScope N_are_different [Str.ofString "things"] (defScope s_are_different) := ⟨rfl, rfl, rfl, by decide +kernel, rfl, by decide +kernel, by decide +kernel⟩
theorem r_are_different (T : Tx K mg) : FnR P w K mg base CX0 1 (a_are_different K) (sp S_are_different) := by
  refine fr_of (S := S_are_different) (N := N_are_different) (f_are_different T) sc_are_different (fun vs H Q h => by first | (obtain ⟨rfl, _⟩ := h; rfl) | (obtain ⟨_, rfl, _⟩ := h; rfl) | (obtain ⟨_, _, rfl, _⟩ := h; rfl) | (obtain ⟨_, _, _, rfl, _⟩ := h; rfl) | (obtain ⟨_, _, _, _, rfl, _⟩ := h; rfl) | (obtain ⟨_, _, _, _, _, rfl, _⟩ := h; rfl) | (obtain ⟨_, _, _, _, _, _, rfl, _⟩ := h; rfl) | (obtain ⟨_, _, _, _, _, _, _, rfl, _⟩ := h; rfl) | (obtain ⟨_, _, _, _, _, _, _, _, rfl, _⟩ := h; rfl) | (obtain ⟨_, _, _, _, _, _, _, _, _, rfl, _⟩ := h; rfl) | (obtain ⟨_, _, _, _, _, _, _, _, _, _, rfl, _⟩ := h; rfl) | (obtain ⟨_, _, _, _, _, _, _, _, _, _, _, rfl, _⟩ := h; rfl) | (obtain ⟨_, _, _, _, _, _, _, _, _, _, _, _, rfl, _⟩ := h; rfl) | (obtain ⟨_, _, _, _, _, _, _, _, _, _, _, _, _, rfl, _⟩ := h; rfl) | (obtain ⟨_, _, _, _, _, _, _, _, _, _, _, _, _, _, rfl, _⟩ := h; rfl) | (obtain ⟨_, _, _, _, _, _, _, _, _, _, _, _, _, _, _, rfl, _⟩ := h; rfl) | (obtain ⟨_, _, _, _, _, _, _, _, _, _, _, _, _, _, _, _, rfl, _⟩ := h; rfl)) (fun _ _ _ _ _ _ us hl => match us, hl with | [_], _ => rfl) (fun cdv A outer s H vs Q E hr h => ?_)
  obtain ⟨a, xs, rfl, hs, hl, nd, q⟩ := h
  refine ⟨_, (pss_one (ps_ret (pe_cmpR op_eq (pe_callB (cLenZ w rfl) rfl (n_len T) (by decide +kernel) (pa_cons (pe_callTy (cSetZ w K rfl rfl rfl) rfl (n_set T) (by decide +kernel) (pa_cons (pv 0) pa_nil)) pa_nil)) (pe_callB (cLen K rfl) rfl (n_len T) (by decide +kernel) (pa_cons (pv 0) pa_nil)) (nomark _)))), ?_⟩
  refine ⟨_, rfl, a, xs, rfl, hs.or, hl, fun p hp => ?_⟩
  have s1 : Same H (upd H p (SetZO w p xs)) := same_new hp
  refine ⟨p, xs, rfl, upd_same, nd, hl, ?_⟩
  have hx : (xs.map V.str).length = xs.length := List.length_map _
  refine ⟨_, rfl, _, xs.length, rfl, ?_, rfl, ?_⟩
  · rcases (hs.same s1).or (K := K) with z | z
    · exact .inl ⟨_, z, hx.symm⟩
    · exact .inr ⟨_, z, hx.symm⟩
  · have := q _ s1
    rw [show V.bl true = V.bl (decide (V.int (xs.length : Nat) = V.int (xs.length : Nat))) from (bT rfl).symm] at this
    exact this
/-! ### reads -/
/-- slots: 0 statement, 1 y, 2 c -/
abbrev N_reads : List Str := [Str.ofString "statement", Str.ofString "y", Str.ofString "c"]
theorem sc_reads : FnScope N_reads [Str.ofString "statement"] (defScope s_reads) := ⟨rfl, rfl, rfl, by decide +kernel, rfl, by decide +kernel, by decide +kernel⟩
def S_reads : Sq := fun vs H Q => ∃ (v : V) (s : Sm), vs = [v] ∧ rSm H v s ∧ SynSm s ∧ ∀ v' zs H', Same H H' → rLst rStr H' v' zs → zs.length ≤ (partsOf s).length → (∀ z ∈ zs, z ≠ e0 ∧ ∃ p ∈ partsOf s, p.1 = z) → Q v' H'
theorem partsOf_len {s : Sm} (h : SynSm s) : (partsOf s).length ≤ 60 := by
  cases s with
  | skip => exact Nat.zero_le _
  | sets xs => show (xs.map (·.2)).length ≤ 60; rw [List.length_map]; exact h.1
  | mx hi x ps => exact h.2.2.1
  | call f as rs => exact h.2.1
theorem r_reads (T : Tx K mg) (c_parts_of : Cal P w K mg base 1 "parts_of" S_parts_of) : FnR P w K mg base CX0 2 (a_reads K) (sp S_reads) := by
  refine fr_of (S := S_reads) (N := N_reads) (f_reads T) sc_reads (fun vs H Q h => by first | (obtain ⟨rfl, _⟩ := h; rfl) | (obtain ⟨_, rfl, _⟩ := h; rfl) | (obtain ⟨_, _, rfl, _⟩ := h; rfl) | (obtain ⟨_, _, _, rfl, _⟩ := h; rfl) | (obtain ⟨_, _, _, _, rfl, _⟩ := h; rfl) | (obtain ⟨_, _, _, _, _, rfl, _⟩ := h; rfl) | (obtain ⟨_, _, _, _, _, _, rfl, _⟩ := h; rfl) | (obtain ⟨_, _, _, _, _, _, _, rfl, _⟩ := h; rfl) | (obtain ⟨_, _, _, _, _, _, _, _, rfl, _⟩ := h; rfl) | (obtain ⟨_, _, _, _, _, _, _, _, _, rfl, _⟩ := h; rfl) | (obtain ⟨_, _, _, _, _, _, _, _, _, _, rfl, _⟩ := h; rfl) | (obtain ⟨_, _, _, _, _, _, _, _, _, _, _, rfl, _⟩ := h; rfl) | (obtain ⟨_, _, _, _, _, _, _, _, _, _, _, _, rfl, _⟩ := h; rfl) | (obtain ⟨_, _, _, _, _, _, _, _, _, _, _, _, _, rfl, _⟩ := h; rfl) | (obtain ⟨_, _, _, _, _, _, _, _, _, _, _, _, _, _, rfl, _⟩ := h; rfl) | (obtain ⟨_, _, _, _, _, _, _, _, _, _, _, _, _, _, _, rfl, _⟩ := h; rfl) | (obtain ⟨_, _, _, _, _, _, _, _, _, _, _, _, _, _, _, _, rfl, _⟩ := h; rfl)) (fun _ _ _ _ _ _ us hl => match us, hl with | [_], _ => rfl) (fun cdv A outer s H vs Q E hr h => ?_)
  obtain ⟨v, s, rfl, hv, hs, q⟩ := h
  have hl := partsOf_len hs
  refine ⟨_, (pss_one (ps_ret (pe_fz (pe_callB (cSortZ w rfl rfl) rfl (n_sorted T) (by decide +kernel) (pa_cons (pe_callTy (cSetZ w K rfl rfl rfl) rfl (n_set T) (by decide +kernel) (pa_cons (pe_lc (own := [("y", 1), ("c", 2)]) rfl sc_reads.nd (piList K rfl (pcall c_parts_of hr (by decide) rfl (pa_cons (pv 0) pa_nil))) (blkOk_by (own := [("y", 1), ("c", 2)]) (N := N_reads) (sc := defScope s_reads) (by decide +kernel)) (fun _ _ _ _ _ => (pgTup (n := 2) K rfl rfl (pgs_cons (pg_name (i := 1) sc_reads.nd rfl (.inl rfl)) (pgs_cons (pg_name (i := 2) sc_reads.nd rfl (.inl rfl)) pgs_nil)))) (fun _ _ _ _ _ => (pts_one (pt_cmpR op_ne (pv 1) (pe_gs rfl (z_ZERO T)) (nomark _)))) (fun _ _ _ _ _ => (pv 1))) pa_nil)) pa_nil))))), ?_⟩
  refine ⟨_, rfl, v, s, rfl, hv, hs, fun v1 H1 s1 hr => ?_⟩
  obtain ⟨a, od, xs, rfl, ha, pa⟩ := hr
  refine ⟨a, rfl, ⟨xs, .inl (.inr ⟨_, ha⟩)⟩, fun D hD => ?_⟩
  refine lc_p (wd_list pa) none rStr (fun p => decide (p.1 ≠ e0)) (fun p => p.1) hD (go_refl _) (fun H' g => .inl (.inr ⟨_, g _ _ ha⟩)) (sz1000 (by omega)) (fun d p r v H2 H' el go y fin skip => ?_) fun H2 acc go hD pc => ?_
  · obtain ⟨rfl, r⟩ := y
    obtain ⟨c, x1, x2, rfl, hc, rfl, rfl⟩ := mo (kp_of go) r
    refine ⟨_, _, rfl, .inl (.inl hc), rfl, _, _, rfl, _, _, rfl, rfl, rfl, ?_⟩
    by_cases e : p.1 = e0
    · refine ⟨_, rfl, rfl, false, nbF (by rw [e]), iteF ?_⟩
      exact skip _ (decide_eq_false (fun z => z e)) (go_refl _)
    · refine ⟨_, rfl, rfl, true, nbT (fun z => e (V.str.inj z)), iteT ?_⟩
      exact ⟨_, rfl, fin _ _ (decide_eq_true e) (go_refl _) rfl⟩
  · have hz : ∀ z ∈ ((partsOf s).filter fun p => decide (p.1 ≠ e0)).map (·.1), z ≠ e0 ∧ ∃ p ∈ partsOf s, p.1 = z := fun z hz => by
      obtain ⟨p, hp, e⟩ := List.mem_map.mp hz
      obtain ⟨hp, hne⟩ := List.mem_filter.mp hp
      rw [← e]
      exact ⟨of_decide_eq_true hne, p, hp, rfl⟩
    have hl2 : (((partsOf s).filter fun p => decide (p.1 ≠ e0)).map (·.1)).length ≤ 60 := by
      rw [List.length_map]
      exact Nat.le_trans (List.length_filter_le _ _) hl
    refine ⟨D, _, rfl, .inl (.inl (.inl (by rw [hD, strs_of pc]))), by omega, fun p hp => ⟨p, _, rfl, upd_same, by omega, fun zs ys p2 nd hk hpm hso hp2 => ?_⟩⟩
    have s2 : Same H2 (upd H2 p (SetZO w p (((partsOf s).filter fun p => decide (p.1 ≠ e0)).map (·.1)))) := same_new hp
    have s3 := (s1.trans (Same.trans go s2)).trans (same_new (o := .lst (ys.map V.str)) hp2)
    refine ⟨p2, _, rfl, upd_same, trivial, fun od => ?_⟩
    rw [upd_upd]
    refine q _ ys _ ((s1.trans (Same.trans go s2)).trans (same_new hp2)) ⟨p2, od, _, rfl, upd_same, of_strs ys⟩ ?_ fun z hz' => hz z ((hk z).mp (hpm.mem_iff.mp hz'))
    rw [hpm.length_eq]
    refine Nat.le_trans (nodup_le nd fun x hx => (hk x).mp hx) ?_
    rw [List.length_map]
    exact List.length_filter_le _ _
end Fp

/-! ## FpFormA -/
set_option Elab.async false
set_option linter.all false
set_option maxRecDepth 100000
set_option maxHeartbeats 2000000
namespace Fp
open PySem PySem.Spec PyProof.Rows L2
variable {P : Program} {w : World} {K : PySem.W.Frag} {mg : Str → Option Value} {base : Heap}
/-! ### reading a dict -/
theorem dgR {H : Hp} {a : Addr} {kvs : List (Key × V)} {k : Str} {o : Option V} (e : Rd H a (.dK kvs)) (h : valV kvs (Sum.inr k) = o) : DGet H a (.str k) o := .inl ⟨kvs, Sum.inr k, e, rfl, h.symm⟩
theorem nd_map {α : Type} {l : List (Str × α)} (h : (keys l).Nodup) : mkD l = l := by
  have go : ∀ (l d : List (Str × α)), (keys (d ++ l)).Nodup → l.foldl (fun d p => put d p.1 p.2) d = d ++ l := by
    intro l
    induction l with
    | nil => intro d _; simp
    | cons p r ih =>
      intro d hn
      have hk : p.1 ∉ keys d := by
        unfold keys at hn ⊢
        rw [List.map_append, List.map_cons] at hn
        intro z
        exact (List.nodup_append.mp hn).2.2 _ z _ List.mem_cons_self rfl
      rw [List.foldl_cons, keys_put_out hk, ih]
      · simp
      · simpa using hn
  have := go l [] (by simpa using h)
  simpa [mkD] using this
/-! ### joined: what it finds -/
theorem jstep_keys {kind : Str} {f : Row} {p : Part} {x : Str} : x ∈ keys (jstep kind f p) ↔ x = p.1 ∨ x ∈ keys f := mem_keys_put
theorem jfold_keys {kind : Str} {x : Str} : ∀ {rows : List Part} {f : Row}, x ∈ keys (rows.foldl (jstep kind) f) ↔ x ∈ keys f ∨ ∃ p ∈ rows, p.1 = x
  | [], f => by simp
  | p :: r, f => by
    rw [List.foldl_cons, jfold_keys, jstep_keys]
    constructor
    · rintro ((e | h) | ⟨q, hq, e⟩)
      · exact .inr ⟨p, List.mem_cons_self, e.symm⟩
      · exact .inl h
      · exact .inr ⟨q, List.mem_cons_of_mem _ hq, e⟩
    · rintro (h | ⟨q, hq, e⟩)
      · exact .inl (.inr h)
      · rcases List.mem_cons.mp hq with z | hq
        · exact .inl (.inl (by rw [← e, z]))
        · exact .inr ⟨q, hq, e⟩
theorem jfold_nd {kind : Str} : ∀ {rows : List Part} {f : Row}, (keys f).Nodup → (keys (rows.foldl (jstep kind) f)).Nodup
  | [], _, h => h
  | p :: r, f, h => jfold_nd (rows := r) (f := jstep kind f p) (nd_put h)
theorem jfold_len {kind : Str} : ∀ {rows : List Part} {f : Row}, (rows.foldl (jstep kind) f).length ≤ f.length + rows.length
  | [], f => Nat.le_refl _
  | p :: r, f => by
    have h1 := jfold_len (kind := kind) (rows := r) (f := jstep kind f p)
    have h2 : (jstep kind f p).length ≤ f.length + 1 := put_len
    rw [List.foldl_cons, List.length_cons]
    omega
theorem jstep_put {kind : Str} {f : Row} {p : Part} {n : Int} (h : n = (match lk f p.1 with | none => p.2 | some m => if kind = "low" then mn m p.2 else mxx m p.2)) : jstep kind f p = put f p.1 n := by
  rw [h]
  rfl
/-- few sources -/
def Few (l : List Part) : Prop := ∃ S : List Str, S.length < 60 ∧ ∀ p ∈ l, p.1 ∈ S
theorem jfound_few {kind : Str} {rows : List Part} (h : Few rows) : (keys (jfound kind rows)).length < 60 := by
  obtain ⟨S, hS, h⟩ := h
  refine Nat.lt_of_le_of_lt (nodup_le (jfold_nd (f := []) (by simp [keys])) fun x hx => ?_) hS
  rcases jfold_keys.mp hx with z | ⟨p, hp, e⟩
  · simp [keys] at z
  · rw [← e]; exact h p hp
/-! ### joined -/
/-- slots: 0 kind, 1 rows, 2 found*, 3 source, 4 number -/
abbrev N_joined : List Str := [Str.ofString "kind", Str.ofString "rows", Str.ofString "found", Str.ofString "source", Str.ofString "number"]
theorem sc_joined : FnScope N_joined [Str.ofString "kind", Str.ofString "rows"] (defScope s_joined) := ⟨rfl, rfl, rfl, by decide +kernel, rfl, by decide +kernel, by decide +kernel⟩
def S_joined : Sq := fun vs H Q => ∃ (kind : Str) (a : Addr) (xs : List V) (rows : List Part), vs = [.str kind, .ref a] ∧ H a = some (.lst xs) ∧ Paired (rPart H) xs rows ∧ rows.length ≤ 1000 ∧ Few rows ∧
  ∀ v' H', Same H H' → rDic rInt H' v' (joined kind rows) → Q v' H'
theorem r_joined (T : Tx K mg) : FnR P w K mg base CX0 1 (a_joined K) (sp S_joined) := by
  refine fr_of (S := S_joined) (N := N_joined) (f_joined T) sc_joined (fun vs H Q h => by first | (obtain ⟨rfl, _⟩ := h; rfl) | (obtain ⟨_, rfl, _⟩ := h; rfl) | (obtain ⟨_, _, rfl, _⟩ := h; rfl) | (obtain ⟨_, _, _, rfl, _⟩ := h; rfl) | (obtain ⟨_, _, _, _, rfl, _⟩ := h; rfl) | (obtain ⟨_, _, _, _, _, rfl, _⟩ := h; rfl) | (obtain ⟨_, _, _, _, _, _, rfl, _⟩ := h; rfl) | (obtain ⟨_, _, _, _, _, _, _, rfl, _⟩ := h; rfl) | (obtain ⟨_, _, _, _, _, _, _, _, rfl, _⟩ := h; rfl) | (obtain ⟨_, _, _, _, _, _, _, _, _, rfl, _⟩ := h; rfl) | (obtain ⟨_, _, _, _, _, _, _, _, _, _, rfl, _⟩ := h; rfl) | (obtain ⟨_, _, _, _, _, _, _, _, _, _, _, rfl, _⟩ := h; rfl) | (obtain ⟨_, _, _, _, _, _, _, _, _, _, _, _, rfl, _⟩ := h; rfl) | (obtain ⟨_, _, _, _, _, _, _, _, _, _, _, _, _, rfl, _⟩ := h; rfl) | (obtain ⟨_, _, _, _, _, _, _, _, _, _, _, _, _, _, rfl, _⟩ := h; rfl) | (obtain ⟨_, _, _, _, _, _, _, _, _, _, _, _, _, _, _, rfl, _⟩ := h; rfl) | (obtain ⟨_, _, _, _, _, _, _, _, _, _, _, _, _, _, _, _, rfl, _⟩ := h; rfl)) (fun _ _ _ _ _ _ us hl => match us, hl with | [_, _], _ => rfl) (fun cdv A outer s H vs Q E hr h => ?_)
  obtain ⟨kind, a, xs, rows, rfl, ha, pa, hl, hf, q⟩ := h
  refine ⟨_, (pss_cons (ps_set (i := 2) sc_joined.nd rfl (.inr rfl) pe_dnewK)
      (pss_cons (ps_for PassesOwn.never rfl (piList K rfl (pv 1)) (pgTup (n := 2) K rfl rfl (pgs_cons (pg_name (i := 3) sc_joined.nd rfl (.inl rfl)) (pgs_cons (pg_name (i := 4) sc_joined.nd rfl (.inl rfl)) pgs_nil))) (pss_one (ps_if (pt_cmp (pc_dnotin (hu_of hr) (pv 3) (pv 2))) (pss_one (ps_dput (hu_of hr) (pv 2) (pv 3) (pv 4) rfl)) (pss_one (ps_if (pt_cmpR op_eq (pv 0) pe_str (nomark _)) (pss_one (ps_dput (hu_of hr) (pv 2) (pv 3) (pe_callB (call_min2 rfl) rfl (n_min T) (by decide +kernel) (pa_cons (pe_dget (hu_of hr) (pv 2) (pv 3) (fun _ _ => rfl)) (pa_cons (pv 4) pa_nil))) rfl)) (pss_one (ps_dput (hu_of hr) (pv 2) (pv 3) (pe_callB (call_max2 rfl) rfl (n_max T) (by decide +kernel) (pa_cons (pe_dget (hu_of hr) (pv 2) (pv 3) (fun _ _ => rfl)) (pa_cons (pv 4) pa_nil))) rfl)))))))
      (pss_one (ps_ret (pe_fz (pe_dc (own := [("source", 3)]) (g := gName 3) rfl sc_joined.nd (piList K rfl (pe_callB (call_sortedD rfl) rfl (n_sorted T) (by decide +kernel) (pa_cons (pv 2) pa_nil))) (blkOk_by (own := [("source", 3)]) (N := N_joined) (sc := defScope s_joined) (by decide +kernel)) (fun _ _ _ _ _ => (pg_name (i := 3) sc_joined.nd rfl (.inl rfl))) (fun _ _ _ _ _ => pts_nil) (fun _ _ _ _ _ => (pv 3)) (fun _ _ _ _ _ => (pe_dget (hu_of hr) (pv 2) (pv 3) (fun _ _ => rfl))))))))), ?_⟩
  intro f hfn
  refine ⟨_, rfl, a, rfl, ⟨xs, .inl (.inl (same_new hfn _ _ ha))⟩, ?_⟩
  refine for_d (wd_list pa) (fun (d : List Part) (σ : L2.St) (H' : Hp) => ∃ y z, σ = [some (V.str kind), some (V.ref a), some (V.ref f), y, z] ∧ Same H H' ∧ ∃ kvs, H' f = some (.dK kvs) ∧ DicP rInt H' kvs (d.foldl (jstep kind) [])) ?_ ?_ ?_ ?_
  · exact ⟨none, none, rfl, same_new hfn, [], upd_same, .nil⟩
  · rintro d σ H' ⟨_, _, _, s, _⟩
    exact .inl (.inl (s _ _ ha))
  · rintro d p r x σ H1 H' el ⟨y, z, rfl, s, kvs, hk, dp⟩ ⟨rfl, r⟩
    obtain ⟨c, x1, x2, rfl, hc, rfl, rfl⟩ := mo (kp_of s) r
    have hl2 : kvs.length < sizeLine := by
      rw [dp.len]
      refine Nat.lt_of_le_of_lt (Nat.le_trans (jfold_len (f := [])) ?_) (sz1000 hl)
      rw [el, List.length_append]
      simp
    have nx : ∀ v n, v = V.int n → n = (match lk (d.foldl (jstep kind) []) p.1 with | none => p.2 | some m => if kind = "low" then mn m p.2 else mxx m p.2) →
        (fun (d : List Part) (σ : L2.St) (H' : Hp) => ∃ y z, σ = [some (V.str kind), some (V.ref a), some (V.ref f), y, z] ∧ Same H H' ∧ ∃ kvs, H' f = some (.dK kvs) ∧ DicP rInt H' kvs (d.foldl (jstep kind) [])) (d ++ [p]) [some (V.str kind), some (V.ref a), some (V.ref f), some (V.str p.1), some (V.int p.2)] (upd H' f (.dK (putK kvs (Sum.inr p.1) v))) := by
      intro v n ev en
      refine ⟨_, _, rfl, Same.mut s hfn, _, upd_same, ?_⟩
      rw [List.foldl_append, List.foldl_cons, List.foldl_nil, jstep_put en]
      exact (dp.mono (kp_mut hk (fun z => z))).put ev
    refine ⟨_, _, rfl, .inl (.inl hc), rfl, _, _, rfl, _, _, rfl, rfl, ?_⟩
    refine ⟨_, rfl, _, rfl, f, _, rfl, dgR (.inl hk) rfl, _, rfl, ?_⟩
    rcases dp.get (k := p.1) with ⟨e1, e2⟩ | ⟨m, v, e1, e2, rfl⟩
    · rw [e2]
      exact iteT ⟨_, rfl, _, rfl, _, rfl, f, _, rfl, .inl ⟨kvs, Sum.inr p.1, hk, rfl, hl2, rfl⟩, nx _ p.2 rfl (by rw [e1])⟩
    · rw [e2]
      refine iteF ⟨_, rfl, rfl, ?_⟩
      by_cases ek : kind = "low"
      · refine ⟨true, sT ek, iteT ⟨_, rfl, _, rfl, f, _, rfl, dgR (.inl hk) e2, _, rfl, _, _, rfl, _, rfl, _, rfl, f, _, rfl, .inl ⟨kvs, Sum.inr p.1, hk, rfl, hl2, rfl⟩, nx _ _ rfl ?_⟩⟩
        rw [e1]
        simp only [ek, if_true]
        rfl
      · refine ⟨false, sF ek, iteF ⟨_, rfl, _, rfl, f, _, rfl, dgR (.inl hk) e2, _, rfl, _, _, rfl, _, rfl, _, rfl, f, _, rfl, .inl ⟨kvs, Sum.inr p.1, hk, rfl, hl2, rfl⟩, nx _ _ rfl ?_⟩⟩
        rw [e1]
        simp only [ek, if_false]
        rfl
  · rintro σ H1 ⟨y, z, rfl, s, kvs, hk, dp⟩
    have h60 := jfound_few (kind := kind) hf
    refine ⟨_, rfl, f, kvs, keys (jfound kind rows), rfl, .inl hk, dp.keys, by omega, fun ys p hpm hso hp => ?_⟩
    have s2 : Same H1 (upd H1 p (.lst (ys.map V.str))) := same_new hp
    refine ⟨p, rfl, ⟨_, .inl (.inl upd_same)⟩, fun D hD => ?_⟩
    have ey := srt_eq hpm hso
    refine dc_m (wd_list (of_strs (H := H) ys)) none rInt (fun x => x) (fun x => (lk (jfound kind rows) x).getD 0) hD (go_refl _) (fun H' g => .inl (.inl (g _ _ upd_same))) (sz1000 (by rw [hpm.length_eq]; omega)) (fun x v H2 H' L hx go y fin => ?_) fun H2 kvs2 go hD2 dp2 => ?_
    · obtain ⟨rfl, rfl⟩ := y
      refine ⟨rfl, yes ⟨_, rfl, _, rfl, _, rfl, f, ?_⟩⟩
      obtain ⟨m, em⟩ := lk_some (hpm.mem_iff.mp hx)
      obtain ⟨v, ev, rfl⟩ := dp.some em
      refine ⟨_, rfl, dgR (.inl (go _ _ (s2 _ _ hk))) ev, fin _ _ (go_refl _) ?_⟩
      show V.int m = V.int _
      rw [em]
      rfl
    · refine ⟨D, _, rfl, hD2, trivial, fun od => ?_⟩
      have hfin : H D = none := Same.free (Same.trans s s2) hD
      refine q _ _ (Same.mut (Same.trans s (Same.trans s2 go)) hfin) ⟨D, od, _, rfl, upd_same, ?_⟩
      have e : mkD (ys.map fun x => (x, (lk (jfound kind rows) x).getD 0)) = joined kind rows := by
        rw [nd_map]
        · rw [ey]; rfl
        · unfold keys
          rw [List.map_map]
          rw [show ((fun x : Str × Int => x.1) ∘ fun x => (x, (lk (jfound kind rows) x).getD 0)) = id from rfl, List.map_id]
          exact hpm.nodup_iff.mpr (jfold_nd (f := []) (by simp [keys]))
      rw [← e]
      exact dp2.mono (kp_mut hD2 (fun z => z))
/-! ### moved -/
/-- slots: 0 row, 1 more*, 2 source, 3 number -/
abbrev N_moved : List Str := [Str.ofString "row", Str.ofString "more", Str.ofString "source", Str.ofString "number"]
theorem sc_moved : FnScope N_moved [Str.ofString "row", Str.ofString "more"] (defScope s_moved) := ⟨rfl, rfl, rfl, by decide +kernel, rfl, by decide +kernel, by decide +kernel⟩
def S_moved : Sq := fun vs H Q => ∃ (v : V) (r : Row) (c : Int), vs = [v, .int c] ∧ rDic rInt H v r ∧ r.length ≤ 60 ∧ ∀ p xs H', Same H H' → H p = none → H' p = some (.lst xs) → Paired (rPart H') xs (moved r c) → Q (.ref p) H'
theorem r_moved (T : Tx K mg) : FnR P w K mg base CX0 1 (a_moved K) (sp S_moved) := by
  refine fr_of (S := S_moved) (N := N_moved) (f_moved T) sc_moved (fun vs H Q h => by first | (obtain ⟨rfl, _⟩ := h; rfl) | (obtain ⟨_, rfl, _⟩ := h; rfl) | (obtain ⟨_, _, rfl, _⟩ := h; rfl) | (obtain ⟨_, _, _, rfl, _⟩ := h; rfl) | (obtain ⟨_, _, _, _, rfl, _⟩ := h; rfl) | (obtain ⟨_, _, _, _, _, rfl, _⟩ := h; rfl) | (obtain ⟨_, _, _, _, _, _, rfl, _⟩ := h; rfl) | (obtain ⟨_, _, _, _, _, _, _, rfl, _⟩ := h; rfl) | (obtain ⟨_, _, _, _, _, _, _, _, rfl, _⟩ := h; rfl) | (obtain ⟨_, _, _, _, _, _, _, _, _, rfl, _⟩ := h; rfl) | (obtain ⟨_, _, _, _, _, _, _, _, _, _, rfl, _⟩ := h; rfl) | (obtain ⟨_, _, _, _, _, _, _, _, _, _, _, rfl, _⟩ := h; rfl) | (obtain ⟨_, _, _, _, _, _, _, _, _, _, _, _, rfl, _⟩ := h; rfl) | (obtain ⟨_, _, _, _, _, _, _, _, _, _, _, _, _, rfl, _⟩ := h; rfl) | (obtain ⟨_, _, _, _, _, _, _, _, _, _, _, _, _, _, rfl, _⟩ := h; rfl) | (obtain ⟨_, _, _, _, _, _, _, _, _, _, _, _, _, _, _, rfl, _⟩ := h; rfl) | (obtain ⟨_, _, _, _, _, _, _, _, _, _, _, _, _, _, _, _, rfl, _⟩ := h; rfl)) (fun _ _ _ _ _ _ us hl => match us, hl with | [_, _], _ => rfl) (fun cdv A outer s H vs Q E hr h => ?_)
  obtain ⟨v, r, c, rfl, ⟨a, od, kvs, rfl, ha, dp⟩, hl, q⟩ := h
  refine ⟨_, (pss_one (ps_ret (pe_lc (own := [("source", 2), ("number", 3)]) rfl sc_moved.nd (pi_items (pv 0)) (blkOk_by (own := [("source", 2), ("number", 3)]) (N := N_moved) (sc := defScope s_moved) (by decide +kernel)) (fun _ _ _ _ _ => (pgTup (n := 2) K rfl rfl (pgs_cons (pg_name (i := 2) sc_moved.nd rfl (.inl rfl)) (pgs_cons (pg_name (i := 3) sc_moved.nd rfl (.inl rfl)) pgs_nil)))) (fun _ _ _ _ _ => pts_nil) (fun _ _ _ _ _ => (pe_tup (pa_cons (pv 2) (pa_cons (pe_op op_add (pv 3) (pv 1)) pa_nil))))))), ?_⟩
  refine ⟨_, rfl, a, od, kvs, rfl, ha, fun D hD => ?_⟩
  refine lc_m (wd_items dp) none rPart (fun p => (p.1, p.2 + c)) hD (go_refl _) (fun H' g => g _ _ ha) (sz1000 (by omega)) (fun p v H1 H' L hp go y fin => ?_) fun H1 acc go hD2 pa => ?_
  · obtain ⟨t, x, rfl, ht, rfl, rfl⟩ := y
    refine ⟨_, _, rfl, .inl (.inl upd_same), rfl, _, _, rfl, _, _, rfl, rfl, rfl, yes ⟨_, rfl, _, rfl, _, rfl, _, _, rfl, rfl, ln2, fun t2 ht2 => ?_⟩⟩
    exact fin _ _ (Same.trans (same_new ht) (same_new ht2)) ⟨t2, _, _, rfl, upd_same, rfl, rfl⟩
  · exact q D acc H1 go hD hD2 pa
end Fp

/-! ## FpFormB -/
set_option Elab.async false
set_option linter.all false
set_option maxRecDepth 100000
set_option maxHeartbeats 2000000
namespace Fp
open PySem PySem.Spec PyProof.Rows L2
variable {P : Program} {w : World} {K : PySem.W.Frag} {mg : Str → Option Value} {base : Heap}
/-! ### a Form's place -/
def FF (k p r t : V) : List (Str × V) := [("its_kinds", k), ("its_params", p), ("its_results", r), ("its_table", t)]
theorem ff_k {k p r t : V} : (FF k p r t).lookup ("its_kinds" : Str) = some k := by
  unfold FF
  rw [List.lookup_cons]
  rfl
theorem ff_p {k p r t : V} : (FF k p r t).lookup ("its_params" : Str) = some p := by
  unfold FF
  rw [List.lookup_cons, show (("its_params" : Str) == ("its_kinds" : Str)) = false from by decide +kernel, List.lookup_cons]
  rfl
theorem ff_r {k p r t : V} : (FF k p r t).lookup ("its_results" : Str) = some r := by
  unfold FF
  rw [List.lookup_cons, show (("its_results" : Str) == ("its_kinds" : Str)) = false from by decide +kernel, List.lookup_cons, show (("its_results" : Str) == ("its_params" : Str)) = false from by decide +kernel, List.lookup_cons]
  rfl
theorem ff_t {k p r t : V} : (FF k p r t).lookup ("its_table" : Str) = some t := by
  unfold FF
  rw [List.lookup_cons, show (("its_table" : Str) == ("its_kinds" : Str)) = false from by decide +kernel, List.lookup_cons, show (("its_table" : Str) == ("its_params" : Str)) = false from by decide +kernel, List.lookup_cons, show (("its_table" : Str) == ("its_results" : Str)) = false from by decide +kernel, List.lookup_cons]
  rfl
theorem ff_no {k p r t : V} {m : Str} (h : m ∉ (["its_kinds", "its_params", "its_results", "its_table"] : List Str)) : (FF k p r t).lookup m = none := by
  have h1 : ∀ x : Str, x ∈ (["its_kinds", "its_params", "its_results", "its_table"] : List Str) → (m == x) = false := fun x hx => by
    rw [beq_eq_false_iff_ne]
    intro e
    exact h (e ▸ hx)
  unfold FF
  rw [List.lookup_cons, h1 _ (by simp), List.lookup_cons, h1 _ (by simp), List.lookup_cons, h1 _ (by simp), List.lookup_cons, h1 _ (by simp)]
  rfl
theorem putF_ne {f g : Str} {v x : V} {r : List (Str × V)} (h : g ≠ f) : putF f v ((g, x) :: r) = (g, x) :: putF f v r := by
  show (if g = f then (g, v) :: r else (g, x) :: putF f v r) = _
  rw [if_neg h]
theorem putF_ff {k p r t : V} : putF ("its_table" : Str) t (putF ("its_results" : Str) r (putF ("its_params" : Str) p (putF ("its_kinds" : Str) k []))) = FF k p r t := by
  have h0 : ∀ (f : Str) (v : V), putF f v [] = [(f, v)] := fun _ _ => rfl
  repeat (first | rw [h0] | rw [putF_ne (by decide +kernel)])
  rfl
theorem putF_len (f : Str) (v : V) : ∀ l : List (Str × V), (putF f v l).length ≤ l.length + 1
  | [] => Nat.le_refl _
  | (g, x) :: r => by
    have := putF_len f v r
    unfold putF
    split
    · simp
    · simp only [List.length_cons]; omega
abbrev rTab : Rep Tab := rDic (rDic rInt)
abbrev cF (K : PySem.W.Frag) : Addr := He.ga K "Form"
def FmAt (K : PySem.W.Frag) (H : Hp) (a : Addr) (F : Fm) : Prop := ∃ dx k p r t, H a = some (.ins (cF K) dx (FF k p r t)) ∧ rDic rStr H k F.kinds ∧ rTup rStr H p F.params ∧ rTup rStr H r F.results ∧ rTab H t F.table
def rFm (K : PySem.W.Frag) : Rep Fm := fun H v F => ∃ a, v = .ref a ∧ FmAt K H a F
theorem FmAt.mono {H H' : Hp} {a : Addr} {F : Fm} (k : Keep H H') (h : FmAt K H a F) : FmAt K H' a F := let ⟨dx, x, p, r, t, e, h1, h2, h3, h4⟩ := h; ⟨dx, x, p, r, t, k _ _ trivial e, mo k h1, mo k h2, mo k h3, mo k h4⟩
instance : Mono (rFm K) := ⟨fun k ⟨a, e, h⟩ => ⟨a, e, h.mono k⟩⟩
/-! ### Form.__init__ -/
/-- slots: 0 self, 1 kinds, 2 params, 3 results, 4 table -/
abbrev N_Form_init : List Str := [Str.ofString "self", Str.ofString "kinds", Str.ofString "params", Str.ofString "results", Str.ofString "table"]
theorem sc_Form_init : FnScope N_Form_init [Str.ofString "self", Str.ofString "kinds", Str.ofString "params", Str.ofString "results", Str.ofString "table"] (defScope s_Form_init) := ⟨rfl, rfl, rfl, by decide +kernel, rfl, by decide +kernel, by decide +kernel⟩
def S_Form_init (K : PySem.W.Frag) : Sq := fun vs H Q => ∃ (x dx : Addr) (k p r t : V), vs = [.ref x, k, p, r, t] ∧ H x = some (.ins (cF K) dx []) ∧ Q .non (upd H x (.ins (cF K) dx (FF k p r t)))
theorem r_Form_init (T : Tx K mg) : FnR P w K mg base CX0 1 (a_Form_init K) (sp (S_Form_init K)) := by
  refine fr_of (S := (S_Form_init K)) (N := N_Form_init) (f_Form_init T) sc_Form_init (fun vs H Q h => by first | (obtain ⟨rfl, _⟩ := h; rfl) | (obtain ⟨_, rfl, _⟩ := h; rfl) | (obtain ⟨_, _, rfl, _⟩ := h; rfl) | (obtain ⟨_, _, _, rfl, _⟩ := h; rfl) | (obtain ⟨_, _, _, _, rfl, _⟩ := h; rfl) | (obtain ⟨_, _, _, _, _, rfl, _⟩ := h; rfl) | (obtain ⟨_, _, _, _, _, _, rfl, _⟩ := h; rfl) | (obtain ⟨_, _, _, _, _, _, _, rfl, _⟩ := h; rfl) | (obtain ⟨_, _, _, _, _, _, _, _, rfl, _⟩ := h; rfl) | (obtain ⟨_, _, _, _, _, _, _, _, _, rfl, _⟩ := h; rfl) | (obtain ⟨_, _, _, _, _, _, _, _, _, _, rfl, _⟩ := h; rfl) | (obtain ⟨_, _, _, _, _, _, _, _, _, _, _, rfl, _⟩ := h; rfl) | (obtain ⟨_, _, _, _, _, _, _, _, _, _, _, _, rfl, _⟩ := h; rfl) | (obtain ⟨_, _, _, _, _, _, _, _, _, _, _, _, _, rfl, _⟩ := h; rfl) | (obtain ⟨_, _, _, _, _, _, _, _, _, _, _, _, _, _, rfl, _⟩ := h; rfl) | (obtain ⟨_, _, _, _, _, _, _, _, _, _, _, _, _, _, _, rfl, _⟩ := h; rfl) | (obtain ⟨_, _, _, _, _, _, _, _, _, _, _, _, _, _, _, _, rfl, _⟩ := h; rfl)) (fun _ _ _ _ _ _ us hl => match us, hl with | [_, _, _, _, _], _ => rfl) (fun cdv A outer s H vs Q E hr h => ?_)
  obtain ⟨x, dx, k, p, r, t, rfl, hx, q⟩ := h
  refine ⟨_, (pss_cons (ps_fld (pv 0) (pv 1) rfl)
      (pss_cons (ps_fld (pv 0) (pv 2) rfl)
      (pss_cons (ps_fld (pv 0) (pv 3) rfl)
      (pss_one (ps_fld (pv 0) (pv 4) rfl))))), ?_⟩
  refine ⟨_, rfl, _, rfl, x, _, dx, _, rfl, hx, c_Form T, no_its_kinds T, by decide, ?_⟩
  refine ⟨_, rfl, _, rfl, x, _, dx, _, rfl, upd_same, c_Form T, no_its_params T, Nat.lt_of_le_of_lt (putF_len _ _ _) (by decide), ?_⟩
  refine ⟨_, rfl, _, rfl, x, _, dx, _, rfl, upd_same, c_Form T, no_its_results T, Nat.lt_of_le_of_lt (Nat.le_trans (putF_len _ _ _) (Nat.succ_le_succ (putF_len _ _ _))) (by decide), ?_⟩
  refine ⟨_, rfl, _, rfl, x, _, dx, _, rfl, upd_same, c_Form T, no_its_table T, Nat.lt_of_le_of_lt (Nat.le_trans (putF_len _ _ _) (Nat.succ_le_succ (Nat.le_trans (putF_len _ _ _) (Nat.succ_le_succ (putF_len _ _ _))))) (by decide), ?_⟩
  rw [upd_upd, upd_upd, upd_upd, putF_ff]
  exact q
/-! ### Form.names, dict_of -/
/-- slots: 0 self -/
abbrev N_Form_names : List Str := [Str.ofString "self"]
theorem sc_Form_names : FnScope N_Form_names [Str.ofString "self"] (defScope s_Form_names) := ⟨rfl, rfl, rfl, by decide +kernel, rfl, by decide +kernel, by decide +kernel⟩
def S_Form_names (K : PySem.W.Frag) : Sq := fun vs H Q => ∃ (v : V) (F : Fm), vs = [v] ∧ rFm K H v F ∧ F.table.length ≤ 60 ∧ ∀ v' H', Same H H' → rLst rStr H' v' (srt (keys F.table)) → Q v' H'
theorem r_Form_names (T : Tx K mg) : FnR P w K mg base CX0 1 (a_Form_names K) (sp (S_Form_names K)) := by
  refine fr_of (S := (S_Form_names K)) (N := N_Form_names) (f_Form_names T) sc_Form_names (fun vs H Q h => by first | (obtain ⟨rfl, _⟩ := h; rfl) | (obtain ⟨_, rfl, _⟩ := h; rfl) | (obtain ⟨_, _, rfl, _⟩ := h; rfl) | (obtain ⟨_, _, _, rfl, _⟩ := h; rfl) | (obtain ⟨_, _, _, _, rfl, _⟩ := h; rfl) | (obtain ⟨_, _, _, _, _, rfl, _⟩ := h; rfl) | (obtain ⟨_, _, _, _, _, _, rfl, _⟩ := h; rfl) | (obtain ⟨_, _, _, _, _, _, _, rfl, _⟩ := h; rfl) | (obtain ⟨_, _, _, _, _, _, _, _, rfl, _⟩ := h; rfl) | (obtain ⟨_, _, _, _, _, _, _, _, _, rfl, _⟩ := h; rfl) | (obtain ⟨_, _, _, _, _, _, _, _, _, _, rfl, _⟩ := h; rfl) | (obtain ⟨_, _, _, _, _, _, _, _, _, _, _, rfl, _⟩ := h; rfl) | (obtain ⟨_, _, _, _, _, _, _, _, _, _, _, _, rfl, _⟩ := h; rfl) | (obtain ⟨_, _, _, _, _, _, _, _, _, _, _, _, _, rfl, _⟩ := h; rfl) | (obtain ⟨_, _, _, _, _, _, _, _, _, _, _, _, _, _, rfl, _⟩ := h; rfl) | (obtain ⟨_, _, _, _, _, _, _, _, _, _, _, _, _, _, _, rfl, _⟩ := h; rfl) | (obtain ⟨_, _, _, _, _, _, _, _, _, _, _, _, _, _, _, _, rfl, _⟩ := h; rfl)) (fun _ _ _ _ _ _ us hl => match us, hl with | [_], _ => rfl) (fun cdv A outer s H vs Q E hr h => ?_)
  obtain ⟨v, F, rfl, ⟨a, rfl, dx, k, p, r, t, ha, hk, hp, hr', d, od, kvs, rfl, hd, dp⟩, hl, q⟩ := h
  refine ⟨_, (pss_one (ps_ret (pe_fz (pe_callB (call_sortedD rfl) rfl (n_sorted T) (by decide +kernel) (pa_cons (peFld K rfl (pv 0)) pa_nil))))), ?_⟩
  refine ⟨_, rfl, a, _, dx, _, _, rfl, ha, c_Form T, no_its_table T, ff_t, d, kvs, keys F.table, rfl, .inr ⟨od, hd⟩, dp.keys, by unfold keys; rw [List.length_map]; omega, fun ys p hpm hso hpn => ?_⟩
  refine ⟨p, _, rfl, upd_same, trivial, fun od2 => ?_⟩
  rw [upd_upd]
  refine q _ _ (same_new hpn) ⟨p, od2, _, rfl, upd_same, ?_⟩
  rw [srt_eq hpm hso]
  exact of_strs _
/-- slots: 0 self, 1 source -/
abbrev N_Form_dict_of : List Str := [Str.ofString "self", Str.ofString "source"]
theorem sc_Form_dict_of : FnScope N_Form_dict_of [Str.ofString "self", Str.ofString "source"] (defScope s_Form_dict_of) := ⟨rfl, rfl, rfl, by decide +kernel, rfl, by decide +kernel, by decide +kernel⟩
def S_Form_dict_of (K : PySem.W.Frag) : Sq := fun vs H Q => ∃ (v : V) (F : Fm) (y : Str), vs = [v, .str y] ∧ rFm K H v F ∧ (y = e0 ∨ y ∈ keys F.table) ∧ ∀ v' H', Same H H' → rDic rInt H' v' (dictOf F.table y) → Q v' H'
theorem zero_fz {H : Hp} {Q : VK} {σ : L2.St} {p : Addr} (hp : H p = none) (q : ∀ od, Q (.ref p) (upd H p (.frz od (.dK [(Sum.inr e0, V.int 0)])))) :
    tPairs [(tC (.str e0), tC (.int 0))] σ (upd H p (.dK [])) fun ps H2 => H2 p = some (.dK []) ∧ ∃ kvs : List (Key × V), ps = kvs.map (fun kv => (kV kv.1, kv.2)) ∧ kvs.length ≤ 15 ∧
      ∃ d u, V.ref p = .ref d ∧ (upd H2 p (.dK (mergeK [] kvs))) d = some u ∧ Mut (some u) ∧ ∀ od, Q (.ref p) (upd (upd H2 p (.dK (mergeK [] kvs))) d (.frz od u)) := by
  refine ⟨upd_same, [(Sum.inr e0, V.int 0)], rfl, by decide, p, _, rfl, upd_same, trivial, fun od => ?_⟩
  rw [upd_upd, upd_upd]
  exact q od
theorem r_Form_dict_of (T : Tx K mg) : FnR P w K mg base CX0 1 (a_Form_dict_of K) (sp (S_Form_dict_of K)) := by
  refine fr_of (S := (S_Form_dict_of K)) (N := N_Form_dict_of) (f_Form_dict_of T) sc_Form_dict_of (fun vs H Q h => by first | (obtain ⟨rfl, _⟩ := h; rfl) | (obtain ⟨_, rfl, _⟩ := h; rfl) | (obtain ⟨_, _, rfl, _⟩ := h; rfl) | (obtain ⟨_, _, _, rfl, _⟩ := h; rfl) | (obtain ⟨_, _, _, _, rfl, _⟩ := h; rfl) | (obtain ⟨_, _, _, _, _, rfl, _⟩ := h; rfl) | (obtain ⟨_, _, _, _, _, _, rfl, _⟩ := h; rfl) | (obtain ⟨_, _, _, _, _, _, _, rfl, _⟩ := h; rfl) | (obtain ⟨_, _, _, _, _, _, _, _, rfl, _⟩ := h; rfl) | (obtain ⟨_, _, _, _, _, _, _, _, _, rfl, _⟩ := h; rfl) | (obtain ⟨_, _, _, _, _, _, _, _, _, _, rfl, _⟩ := h; rfl) | (obtain ⟨_, _, _, _, _, _, _, _, _, _, _, rfl, _⟩ := h; rfl) | (obtain ⟨_, _, _, _, _, _, _, _, _, _, _, _, rfl, _⟩ := h; rfl) | (obtain ⟨_, _, _, _, _, _, _, _, _, _, _, _, _, rfl, _⟩ := h; rfl) | (obtain ⟨_, _, _, _, _, _, _, _, _, _, _, _, _, _, rfl, _⟩ := h; rfl) | (obtain ⟨_, _, _, _, _, _, _, _, _, _, _, _, _, _, _, rfl, _⟩ := h; rfl) | (obtain ⟨_, _, _, _, _, _, _, _, _, _, _, _, _, _, _, _, rfl, _⟩ := h; rfl)) (fun _ _ _ _ _ _ us hl => match us, hl with | [_, _], _ => rfl) (fun cdv A outer s H vs Q E hr h => ?_)
  obtain ⟨v, F, y, rfl, ⟨a, rfl, dx, k, p, r, t, ha, hk, hp, hr', d, od, kvs, rfl, hd, dp⟩, hy, q⟩ := h
  refine ⟨_, (pss_one (ps_ret (pe_ifExp (pt_cmpR op_eq (pv 1) pe_str (nomark _)) (pe_fz (pe_disp (pps_cons pe_str pe_int pps_nil) (by rfl) (by rfl) (fun z => by cases z) (by decide))) (pe_dget (hu_of hr) (peFld K rfl (pv 0)) (pv 1) (fun _ _ => rfl))))), ?_⟩
  refine ⟨_, rfl, rfl, ?_⟩
  by_cases e : y = e0
  · refine ⟨true, sT e, iteT fun p hp => ?_⟩
    refine zero_fz hp fun od => q _ _ (same_new hp) ⟨p, od, _, rfl, upd_same, ?_⟩
    unfold dictOf
    rw [if_pos e]
    exact .cons ⟨rfl, rfl⟩ .nil
  · obtain ⟨row, er⟩ := lk_some (hy.resolve_left e)
    obtain ⟨v, ev, hv⟩ := dp.some er
    refine ⟨false, sF e, iteF ⟨_, rfl, a, _, dx, _, _, rfl, ha, c_Form T, no_its_table T, ff_t, _, rfl, d, v, rfl, dgR (.inr ⟨od, hd⟩) ev, q _ _ (Same.refl H) ?_⟩⟩
    unfold dictOf
    rw [if_neg e, er]
    exact hv
/-! ### a Form is in order: its rows' sources within S -/
structure WfF (S : List Str) (F : Fm) : Prop where
  nd : (keys F.table).Nodup
  ks : ∀ x, x ∈ keys F.kinds ↔ x ∈ keys F.table
  ne : e0 ∉ keys F.table
  len : F.table.length ≤ 8
  few : S.length ≤ 8
  z : e0 ∈ S
  row : ∀ x r, lk F.table x = some r → (keys r).Nodup ∧ (∀ y ∈ keys r, y ∈ S) ∧ r ≠ []
def Nm (ks : List Str) (y : Str) : Prop := y = e0 ∨ y ∈ ks
theorem WfF.dict {S : List Str} {F : Fm} (h : WfF S F) {y : Str} (hy : Nm (keys F.table) y) : (keys (dictOf F.table y)).Nodup ∧ (∀ x ∈ keys (dictOf F.table y), x ∈ S) ∧ dictOf F.table y ≠ [] := by
  unfold dictOf
  by_cases e : y = e0
  · rw [if_pos e]
    exact ⟨by simp [keys], fun x hx => by rw [show x = e0 from by simpa [keys] using hx]; exact h.z, by simp⟩
  · rw [if_neg e]
    obtain ⟨r, er⟩ := lk_some (hy.resolve_left e)
    rw [er]
    exact h.row y r er
theorem row_len {S : List Str} {r : Row} (nd : (keys r).Nodup) (hs : ∀ y ∈ keys r, y ∈ S) (few : S.length ≤ 8) : r.length ≤ 8 := by
  have := nodup_le nd hs
  unfold keys at this
  rw [List.length_map] at this
  omega
theorem WfF.dlen {S : List Str} {F : Fm} (h : WfF S F) {y : Str} (hy : Nm (keys F.table) y) : (dictOf F.table y).length ≤ 8 := let ⟨a, b, _⟩ := h.dict hy; row_len a b h.few
theorem moved_keys {r : Row} {c : Int} : (moved r c).map (·.1) = keys r := by
  unfold moved keys
  rw [List.map_map]
  rfl
theorem moved_len {r : Row} {c : Int} : (moved r c).length = r.length := List.length_map _
/-! ### Form.__getitem__ -/
/-- slots: 0 self, 1 source -/
abbrev N_Form_getitem : List Str := [Str.ofString "self", Str.ofString "source"]
theorem sc_Form_getitem : FnScope N_Form_getitem [Str.ofString "self", Str.ofString "source"] (defScope s_Form_getitem) := ⟨rfl, rfl, rfl, by decide +kernel, rfl, by decide +kernel, by decide +kernel⟩
theorem r_Form_getitem (T : Tx K mg) (c_Form_dict_of : CalF P w K mg base 1 (cF K) "dict_of" (S_Form_dict_of K)) : FnR P w K mg base CX0 2 (a_Form_getitem K) (sp (S_Form_dict_of K)) := by
  refine fr_of (S := (S_Form_dict_of K)) (N := N_Form_getitem) (f_Form_getitem T) sc_Form_getitem (fun vs H Q h => by first | (obtain ⟨rfl, _⟩ := h; rfl) | (obtain ⟨_, rfl, _⟩ := h; rfl) | (obtain ⟨_, _, rfl, _⟩ := h; rfl) | (obtain ⟨_, _, _, rfl, _⟩ := h; rfl) | (obtain ⟨_, _, _, _, rfl, _⟩ := h; rfl) | (obtain ⟨_, _, _, _, _, rfl, _⟩ := h; rfl) | (obtain ⟨_, _, _, _, _, _, rfl, _⟩ := h; rfl) | (obtain ⟨_, _, _, _, _, _, _, rfl, _⟩ := h; rfl) | (obtain ⟨_, _, _, _, _, _, _, _, rfl, _⟩ := h; rfl) | (obtain ⟨_, _, _, _, _, _, _, _, _, rfl, _⟩ := h; rfl) | (obtain ⟨_, _, _, _, _, _, _, _, _, _, rfl, _⟩ := h; rfl) | (obtain ⟨_, _, _, _, _, _, _, _, _, _, _, rfl, _⟩ := h; rfl) | (obtain ⟨_, _, _, _, _, _, _, _, _, _, _, _, rfl, _⟩ := h; rfl) | (obtain ⟨_, _, _, _, _, _, _, _, _, _, _, _, _, rfl, _⟩ := h; rfl) | (obtain ⟨_, _, _, _, _, _, _, _, _, _, _, _, _, _, rfl, _⟩ := h; rfl) | (obtain ⟨_, _, _, _, _, _, _, _, _, _, _, _, _, _, _, rfl, _⟩ := h; rfl) | (obtain ⟨_, _, _, _, _, _, _, _, _, _, _, _, _, _, _, _, rfl, _⟩ := h; rfl)) (fun _ _ _ _ _ _ us hl => match us, hl with | [_, _], _ => rfl) (fun cdv A outer s H vs Q E hr h => ?_)
  obtain ⟨v, F, y, rfl, hv, hy, q⟩ := h
  obtain ⟨a, rfl, dx, k, p, r, t, ha, hk, hp, hr', d, od, kvs, rfl, hd, dp⟩ := id hv
  refine ⟨_, (pss_cons (ps_if (PW.pt (pw_or (pt_not (pt_val (pe_callB (cIsi K rfl) rfl (n_isinstance T) (by decide +kernel) (pa_cons (pv 1) (pa_cons (pe_bltn (v := .ty "str") rfl (n_str T) (by decide +kernel) rfl) pa_nil))))) (pw_or1 (PW.pt (pw_and (pt_cmpR op_ne (pv 1) pe_str (nomark _)) (pw_and1 (pt_cmp (pc_dnotin (hu_of hr) (pv 1) (peFld K rfl (pv 0)))))))))) (pss_one ps_never) pss_nil)
      (pss_one (ps_ret (pe_fz (pe_callTy call_dictD rfl (n_dict T) (by decide +kernel) (pa_cons (pmeth c_Form_dict_of hr (by decide) (pv 0) (pa_cons (pv 1) pa_nil)) pa_nil)))))), ?_⟩
  have fin : tRet (tFz (tCB (fun xs H Q => ∃ (a : Addr) (kvs : List (Key × V)), xs = [.ref a] ∧ Rd H a (.dK kvs) ∧ ∀ p, H p = none → Q (.ref p) (upd H p (.dK kvs))) (tCons (tMd (cF K) "dict_of" (S_Form_dict_of K) (tVar 0) (tCons (tVar 1) tNil)) tNil)))
      { nx := fun _ H' => Q .non H', rt := Q } (L2.start N_Form_getitem [V.ref a, V.str y]) H := by
    refine ⟨_, rfl, a, dx, _, rfl, ha, ff_no (by decide +kernel), _, rfl, _, F, y, rfl, hv, hy, fun v1 H1 s1 ⟨b, od1, kvs1, e, hb, dp1⟩ => ?_⟩
    subst e
    refine ⟨b, kvs1, rfl, .inr ⟨_, hb⟩, fun p hpn => ⟨p, _, rfl, upd_same, trivial, fun od2 => ?_⟩⟩
    rw [upd_upd]
    exact q _ _ (s1.trans (same_new hpn)) ⟨p, od2, _, rfl, upd_same, dp1.mono (kp_new hpn)⟩
  refine ⟨_, rfl, _, _, _, _, _, rfl, .ty _, .base (.str _), kt_ss, true, rfl, iteF ?_⟩
  refine ⟨_, rfl, rfl, ?_⟩
  by_cases e : y = e0
  · exact ⟨false, nbF (by rw [e]), iteF fin⟩
  · refine ⟨true, nbT (fun z => e (V.str.inj z)), iteT ⟨_, rfl, _, rfl, a, _, dx, _, _, rfl, ha, c_Form T, no_its_table T, ff_t, d, _, rfl, dgR (.inr ⟨od, hd⟩) rfl, _, rfl, ?_⟩⟩
    obtain ⟨row, er⟩ := lk_some (hy.resolve_left e)
    obtain ⟨v, ev, _⟩ := dp.some er
    rw [ev]
    exact iteF fin
/-! ### with_table -/
theorem form_made {H : Hp} {x dx : Addr} {k p r t : V} {Q : VK} {F : Fm} (hx : H x = none) (hd : H dx = none) (ne : dx ≠ x) (h1 : rDic rStr H k F.kinds) (h2 : rTup rStr H p F.params) (h3 : rTup rStr H r F.results) (h4 : rTab H t F.table)
    (q : ∀ H2, Same H H2 → rFm K H2 (.ref x) F → Q (.ref x) H2) : S_Form_init K [.ref x, k, p, r, t] (upd (upd H dx (.own x)) x (.ins (cF K) dx [])) (fun v H2 => v = .non ∧ Q (.ref x) H2) := by
  refine ⟨x, dx, k, p, r, t, rfl, upd_same, rfl, ?_⟩
  rw [upd_upd]
  have s : Same H (upd (upd H dx (.own x)) x (.ins (cF K) dx (FF k p r t))) := Same.mut (same_new hd) hx
  exact q _ s ⟨x, rfl, dx, k, p, r, t, upd_same, mo (kp_of s) h1, mo (kp_of s) h2, mo (kp_of s) h3, mo (kp_of s) h4⟩
/-- slots: 0 self, 1 table -/
abbrev N_Form_with_table : List Str := [Str.ofString "self", Str.ofString "table"]
theorem sc_Form_with_table : FnScope N_Form_with_table [Str.ofString "self", Str.ofString "table"] (defScope s_Form_with_table) := ⟨rfl, rfl, rfl, by decide +kernel, rfl, by decide +kernel, by decide +kernel⟩
def S_Form_with_table (K : PySem.W.Frag) : Sq := fun vs H Q => ∃ (v u : V) (F : Fm) (t : Tab), vs = [v, u] ∧ rFm K H v F ∧ rTab H u t ∧ ∀ v' H', Same H H' → rFm K H' v' { F with table := t } → Q v' H'
theorem r_Form_with_table (T : Tx K mg) (c_Form : Mak P w K mg base 1 "Form" (cF K) (S_Form_init K)) : FnR P w K mg base CX0 3 (a_Form_with_table K) (sp (S_Form_with_table K)) := by
  refine fr_of (S := (S_Form_with_table K)) (N := N_Form_with_table) (f_Form_with_table T) sc_Form_with_table (fun vs H Q h => by first | (obtain ⟨rfl, _⟩ := h; rfl) | (obtain ⟨_, rfl, _⟩ := h; rfl) | (obtain ⟨_, _, rfl, _⟩ := h; rfl) | (obtain ⟨_, _, _, rfl, _⟩ := h; rfl) | (obtain ⟨_, _, _, _, rfl, _⟩ := h; rfl) | (obtain ⟨_, _, _, _, _, rfl, _⟩ := h; rfl) | (obtain ⟨_, _, _, _, _, _, rfl, _⟩ := h; rfl) | (obtain ⟨_, _, _, _, _, _, _, rfl, _⟩ := h; rfl) | (obtain ⟨_, _, _, _, _, _, _, _, rfl, _⟩ := h; rfl) | (obtain ⟨_, _, _, _, _, _, _, _, _, rfl, _⟩ := h; rfl) | (obtain ⟨_, _, _, _, _, _, _, _, _, _, rfl, _⟩ := h; rfl) | (obtain ⟨_, _, _, _, _, _, _, _, _, _, _, rfl, _⟩ := h; rfl) | (obtain ⟨_, _, _, _, _, _, _, _, _, _, _, _, rfl, _⟩ := h; rfl) | (obtain ⟨_, _, _, _, _, _, _, _, _, _, _, _, _, rfl, _⟩ := h; rfl) | (obtain ⟨_, _, _, _, _, _, _, _, _, _, _, _, _, _, rfl, _⟩ := h; rfl) | (obtain ⟨_, _, _, _, _, _, _, _, _, _, _, _, _, _, _, rfl, _⟩ := h; rfl) | (obtain ⟨_, _, _, _, _, _, _, _, _, _, _, _, _, _, _, _, rfl, _⟩ := h; rfl)) (fun _ _ _ _ _ _ us hl => match us, hl with | [_, _], _ => rfl) (fun cdv A outer s H vs Q E hr h => ?_)
  obtain ⟨v, u, F, t, rfl, ⟨a, rfl, dx, k, p, r, t0, ha, hk, hp, hr', ht⟩, hu, q⟩ := h
  refine ⟨_, (pss_one (ps_ret (pmake c_Form hr (by decide) rfl (pa_cons (peFld K rfl (pv 0)) (pa_cons (peFld K rfl (pv 0)) (pa_cons (peFld K rfl (pv 0)) (pa_cons (pv 1) pa_nil))))))), ?_⟩
  refine ⟨_, rfl, a, _, dx, _, _, rfl, ha, Fp.c_Form T, no_its_kinds T, ff_k, _, rfl, a, _, dx, _, _, rfl, ha, Fp.c_Form T, no_its_params T, ff_p, _, rfl, a, _, dx, _, _, rfl, ha, Fp.c_Form T, no_its_results T, ff_r, _, rfl, fun x dx2 hx hd ne => ?_⟩
  exact form_made (F := { F with table := t }) hx hd ne hk hp hr' hu fun H2 s hf => q _ _ s hf
end Fp

/-! ## FpFormC -/
set_option Elab.async false
set_option linter.all false
set_option maxRecDepth 100000
set_option maxHeartbeats 2000000
namespace Fp
open PySem PySem.Spec PyProof.Rows L2
variable {P : Program} {w : World} {K : PySem.W.Frag} {mg : Str → Option Value} {base : Heap}
/-! ### led_row -/
/-- slots: 0 kind, 1 row, 2 table, 3 found, 4 source, 5 number -/
abbrev N_led_row : List Str := [Str.ofString "kind", Str.ofString "row", Str.ofString "table", Str.ofString "found", Str.ofString "source", Str.ofString "number"]
theorem sc_led_row : FnScope N_led_row [Str.ofString "kind", Str.ofString "row", Str.ofString "table"] (defScope s_led_row) := ⟨rfl, rfl, rfl, by decide +kernel, rfl, by decide +kernel, by decide +kernel⟩
def ledP (inside : Tab) (p : Part) : List Part := moved ((lk inside p.1).getD []) p.2
def S_led_row : Sq := fun vs H Q => ∃ (kind : Str) (v u : V) (row : Row) (inside : Tab), vs = [.str kind, v, u] ∧ rDic rInt H v row ∧ rTab H u inside ∧ (∀ p ∈ row, ∃ r, lk inside p.1 = some r ∧ r.length ≤ 60) ∧ row.length ≤ 60 ∧
  (row.flatMap (ledP inside)).length ≤ 1000 ∧ Few (row.flatMap (ledP inside)) ∧ ∀ v' H', Same H H' → rDic rInt H' v' (ledRow kind row inside) → Q v' H'
theorem flat_pre {α β : Type} (f : α → List β) {d r : List α} {p : α} : (d.flatMap f).length + (f p).length ≤ ((d ++ p :: r).flatMap f).length := by
  rw [List.flatMap_append, List.flatMap_cons, List.length_append, List.length_append]
  omega
theorem flat_snoc {α β : Type} (f : α → List β) {d : List α} {p : α} : (d ++ [p]).flatMap f = d.flatMap f ++ f p := by
  rw [List.flatMap_append]
  simp
theorem r_led_row (T : Tx K mg) (c_moved : Cal P w K mg base 1 "moved" S_moved) (c_joined : Cal P w K mg base 1 "joined" S_joined) : FnR P w K mg base CX0 2 (a_led_row K) (sp S_led_row) := by
  refine fr_of (S := S_led_row) (N := N_led_row) (f_led_row T) sc_led_row (fun vs H Q h => by first | (obtain ⟨rfl, _⟩ := h; rfl) | (obtain ⟨_, rfl, _⟩ := h; rfl) | (obtain ⟨_, _, rfl, _⟩ := h; rfl) | (obtain ⟨_, _, _, rfl, _⟩ := h; rfl) | (obtain ⟨_, _, _, _, rfl, _⟩ := h; rfl) | (obtain ⟨_, _, _, _, _, rfl, _⟩ := h; rfl) | (obtain ⟨_, _, _, _, _, _, rfl, _⟩ := h; rfl) | (obtain ⟨_, _, _, _, _, _, _, rfl, _⟩ := h; rfl) | (obtain ⟨_, _, _, _, _, _, _, _, rfl, _⟩ := h; rfl) | (obtain ⟨_, _, _, _, _, _, _, _, _, rfl, _⟩ := h; rfl) | (obtain ⟨_, _, _, _, _, _, _, _, _, _, rfl, _⟩ := h; rfl) | (obtain ⟨_, _, _, _, _, _, _, _, _, _, _, rfl, _⟩ := h; rfl) | (obtain ⟨_, _, _, _, _, _, _, _, _, _, _, _, rfl, _⟩ := h; rfl) | (obtain ⟨_, _, _, _, _, _, _, _, _, _, _, _, _, rfl, _⟩ := h; rfl) | (obtain ⟨_, _, _, _, _, _, _, _, _, _, _, _, _, _, rfl, _⟩ := h; rfl) | (obtain ⟨_, _, _, _, _, _, _, _, _, _, _, _, _, _, _, rfl, _⟩ := h; rfl) | (obtain ⟨_, _, _, _, _, _, _, _, _, _, _, _, _, _, _, _, rfl, _⟩ := h; rfl)) (fun _ _ _ _ _ _ us hl => match us, hl with | [_, _, _], _ => rfl) (fun cdv A outer s H vs Q E hr h => ?_)
  obtain ⟨kind, v, u, row, inside, rfl, ⟨a, od, kvs, rfl, ha, dp⟩, ⟨b, od2, kvs2, rfl, hb, dp2⟩, hin, hl, hl2, hf, q⟩ := h
  refine ⟨_, (pss_cons (ps_set (i := 3) sc_led_row.nd rfl (.inl rfl) (pe_lst pa_nil))
      (pss_cons (ps_for PassesOwn.never rfl (pi_items (pv 1)) (pgTup (n := 2) K rfl rfl (pgs_cons (pg_name (i := 4) sc_led_row.nd rfl (.inl rfl)) (pgs_cons (pg_name (i := 5) sc_led_row.nd rfl (.inl rfl)) pgs_nil))) (pss_one (ps_expr (pe_bm PySem.F.plainAttrs_list PySem.F.slot_list_extend PySem.F.type_list_extend mt_extend (pv 3) (pa_cons (pcall c_moved hr (by decide) rfl (pa_cons (pe_dget (hu_of hr) (pv 2) (pv 4) (fun _ _ => rfl)) (pa_cons (pv 5) pa_nil))) pa_nil)))))
      (pss_one (ps_ret (pcall c_joined hr (by decide) rfl (pa_cons (pv 0) (pa_cons (pv 3) pa_nil))))))), ?_⟩
  refine ⟨Nat.zero_le _, fun f hfn => ?_⟩
  refine ⟨_, rfl, a, od, kvs, rfl, same_new hfn _ _ ha, ?_⟩
  refine for_d (wd_items dp) (fun (d : List Part) (σ : L2.St) (H' : Hp) => ∃ y z, σ = [some (V.str kind), some (V.ref a), some (V.ref b), some (V.ref f), y, z] ∧ Same H H' ∧ ∃ acc, H' f = some (.lst acc) ∧ Paired (rPart H') acc (d.flatMap (ledP inside))) ?_ ?_ ?_ ?_
  · exact ⟨none, none, rfl, same_new hfn, [], upd_same, .nil⟩
  · rintro d σ H' ⟨_, _, _, s, _⟩
    exact s _ _ ha
  · rintro d p r x σ H1 H' el ⟨y, z, rfl, s, acc, hk, pa⟩ ⟨t, x2, rfl, ht, rfl, rfl⟩
    obtain ⟨rw_, er, hrl⟩ := hin p (by rw [el]; simp)
    obtain ⟨v2, ev2, hv2⟩ := dp2.some er
    have s1 : Same H1 (upd H1 t (.tup [V.str p.1, V.int p.2])) := same_new ht
    refine ⟨_, _, rfl, .inl (.inl upd_same), rfl, _, _, rfl, _, _, rfl, rfl, ?_⟩
    refine ⟨_, rfl, .inl ⟨rfl, _, .inl (.inl (s1 _ _ hk))⟩, _, rfl, _, rfl, b, v2, rfl, dgR (.inr ⟨od2, s1 _ _ (s _ _ hb)⟩) ev2, _, rfl, _, rw_, p.2, rfl, mo (kp_of (s.trans s1)) hv2, hrl, fun c zs H2 s2 hcn hc pz => ?_⟩
    have hk2 := s2 _ _ (s1 _ _ hk)
    have hpre := flat_pre (ledP inside) (d := d) (r := r) (p := p)
    rw [← el] at hpre
    have hmv : moved rw_ p.2 = ledP inside p := by unfold ledP; rw [er]; rfl
    refine ⟨f, c, acc, zs, rfl, rfl, hk2, hc, sz1000' ?_, ?_⟩
    · rw [Paired.length pa, Paired.length pz, hmv]; omega
    · refine ⟨_, _, rfl, Same.mut (s.trans (s1.trans s2)) hfn, _, upd_same, ?_⟩
      rw [flat_snoc, ← hmv]
      have k2 : Keep H2 (upd H2 f (.lst (acc ++ zs))) := kp_mut hk2 (fun z => z)
      exact Paired.app (mos ((kp_of (s1.trans s2)).trans k2) pa) (mos k2 pz)
  · rintro σ H1 ⟨y, z, rfl, s, acc, hk, pa⟩
    refine ⟨_, rfl, _, rfl, kind, f, acc, _, rfl, hk, pa, hl2, hf, fun v' H2 s2 hr => q _ _ (s.trans s2) ?_⟩
    exact hr
/-! ### Form.handed -/
/-- slots: 0 self, 1 statement, 2 params, 3 found, 4 param, 5 y, 6 c -/
abbrev N_Form_handed : List Str := [Str.ofString "self", Str.ofString "statement", Str.ofString "params", Str.ofString "found", Str.ofString "param", Str.ofString "y", Str.ofString "c"]
theorem sc_Form_handed : FnScope N_Form_handed [Str.ofString "self", Str.ofString "statement", Str.ofString "params"] (defScope s_Form_handed) := ⟨rfl, rfl, rfl, by decide +kernel, rfl, by decide +kernel, by decide +kernel⟩
def rCl (H : Hp) (v : V) (f : Str) (as : List Part) (rs : List Str) : Prop := rSm H v (.call f as rs)
def S_Form_handed (K : PySem.W.Frag) : Sq := fun vs H Q => ∃ (v u x : V) (F : Fm) (f : Str) (as : List Part) (rs params : List Str) (S : List Str), vs = [v, u, x] ∧ rFm K H v F ∧ rSm H u (.call f as rs) ∧ rTup rStr H x params ∧
  WfF S F ∧ (∀ p ∈ as, Nm (keys F.table) p.1) ∧ as.length ≤ 60 ∧ ∀ v' H', Same H H' → rTab H' v' (handed F.table as params) → Q v' H'
theorem parts_refs {H : Hp} : ∀ {xs : List V} {rows : List Part}, Paired (rPart H) xs rows → ∃ ps : List Addr, xs = ps.map V.ref ∧ Paired (fun p (kv : Key × V) => SqT K H p [kV kv.1, kv.2]) ps (rows.map fun p => (Sum.inr p.1, V.int p.2))
  | [], _, .nil => ⟨[], rfl, .nil⟩
  | _ :: _, p :: _, .cons h t => by
    obtain ⟨ps, e, hp⟩ := parts_refs t
    obtain ⟨a, x, y, rfl, ha, rfl, rfl⟩ := h
    exact ⟨a :: ps, by rw [e]; rfl, .cons (.inl (.inl ha)) hp⟩
theorem merge_mk {H : Hp} (rows : List Part) : DicP rInt H (mergeK [] (rows.map fun p => ((Sum.inr p.1 : Key), V.int p.2))) (mkD rows) := by
  have go : ∀ (rows : List Part) (kvs : List (Key × V)) (d : Row), DicP rInt H kvs d → DicP rInt H (mergeK kvs (rows.map fun p => ((Sum.inr p.1 : Key), V.int p.2))) (rows.foldl (fun d p => Fp.put d p.1 p.2) d) := by
    intro rows
    induction rows with
    | nil => intro kvs d h; exact h
    | cons p r ih =>
      intro kvs d h
      exact ih _ _ (DicP.put (a := p.2) h rfl)
  exact go rows [] [] .nil
theorem r_Form_handed (T : Tx K mg) (c_moved : Cal P w K mg base 1 "moved" S_moved) (c_Form_dict_of : CalF P w K mg base 1 (cF K) "dict_of" (S_Form_dict_of K)) : FnR P w K mg base CX0 2 (a_Form_handed K) (sp (S_Form_handed K)) := by
  refine fr_of (S := (S_Form_handed K)) (N := N_Form_handed) (f_Form_handed T) sc_Form_handed (fun vs H Q h => by first | (obtain ⟨rfl, _⟩ := h; rfl) | (obtain ⟨_, rfl, _⟩ := h; rfl) | (obtain ⟨_, _, rfl, _⟩ := h; rfl) | (obtain ⟨_, _, _, rfl, _⟩ := h; rfl) | (obtain ⟨_, _, _, _, rfl, _⟩ := h; rfl) | (obtain ⟨_, _, _, _, _, rfl, _⟩ := h; rfl) | (obtain ⟨_, _, _, _, _, _, rfl, _⟩ := h; rfl) | (obtain ⟨_, _, _, _, _, _, _, rfl, _⟩ := h; rfl) | (obtain ⟨_, _, _, _, _, _, _, _, rfl, _⟩ := h; rfl) | (obtain ⟨_, _, _, _, _, _, _, _, _, rfl, _⟩ := h; rfl) | (obtain ⟨_, _, _, _, _, _, _, _, _, _, rfl, _⟩ := h; rfl) | (obtain ⟨_, _, _, _, _, _, _, _, _, _, _, rfl, _⟩ := h; rfl) | (obtain ⟨_, _, _, _, _, _, _, _, _, _, _, _, rfl, _⟩ := h; rfl) | (obtain ⟨_, _, _, _, _, _, _, _, _, _, _, _, _, rfl, _⟩ := h; rfl) | (obtain ⟨_, _, _, _, _, _, _, _, _, _, _, _, _, _, rfl, _⟩ := h; rfl) | (obtain ⟨_, _, _, _, _, _, _, _, _, _, _, _, _, _, _, rfl, _⟩ := h; rfl) | (obtain ⟨_, _, _, _, _, _, _, _, _, _, _, _, _, _, _, _, rfl, _⟩ := h; rfl)) (fun _ _ _ _ _ _ us hl => match us, hl with | [_, _, _], _ => rfl) (fun cdv A outer s H vs Q E hr h => ?_)
  obtain ⟨v, u, x, F, f, as, rs, params, S, rfl, hv, ⟨a, y, z, rfl, ha, hy, hz⟩, hx, wf, has, hl, q⟩ := h
  obtain ⟨b, ys, rfl, hb, pb⟩ := hy
  obtain ⟨c, xs, rfl, hc, pc⟩ := hx
  obtain ⟨fa, rfl, dx, k, p, r, t, hfa, hk, hp, hr', ht⟩ := id hv
  refine ⟨_, (pss_cons (ps_set (i := 3) sc_Form_handed.nd rfl (.inl rfl) (pe_disp (pps_cons pe_str (pe_fz (pe_disp (pps_cons pe_str pe_int pps_nil) (by rfl) (by rfl) (fun z => by cases z) (by decide))) pps_nil) (by rfl) (by rfl) (fun z => by cases z) (by decide)))
      (pss_cons (ps_for PassesOwn.never rfl (RZ.pi_zipA rfl (n_zip T) (pa_cons (pv 2) (pa_cons (pe_ix (ixT K rfl) (pv 1) pe_int (fun _ _ => rfl)) pa_nil))) (pgTup (n := 2) K rfl rfl (pgs_cons (pg_name (i := 4) sc_Form_handed.nd rfl (.inl rfl)) (pgs_cons (pgTup (n := 2) K rfl rfl (pgs_cons (pg_name (i := 5) sc_Form_handed.nd rfl (.inl rfl)) (pgs_cons (pg_name (i := 6) sc_Form_handed.nd rfl (.inl rfl)) pgs_nil))) pgs_nil))) (pss_one (ps_dput (hu_of hr) (pv 3) (pv 4) (pe_fz (pe_callTy (call_dictP rfl) rfl (n_dict T) (by decide +kernel) (pa_cons (pcall c_moved hr (by decide) rfl (pa_cons (pmeth c_Form_dict_of hr (by decide) (pv 0) (pa_cons (pv 5) pa_nil)) (pa_cons (pv 6) pa_nil))) pa_nil))) rfl)))
      (pss_one (ps_ret (pe_fz (pv 3)))))), ?_⟩
  intro fd hfd p0 hp0
  refine ⟨upd_same, [(Sum.inr e0, V.int 0)], rfl, by decide, p0, _, rfl, upd_same, trivial, fun od0 => ?_⟩
  rw [upd_upd, upd_upd]
  have sA : Same H (upd H fd (.dK [])) := same_new hfd
  have sB : Same (upd H fd (.dK [])) (upd (upd H fd (.dK [])) p0 (.frz od0 (.dK (mergeK [] [(Sum.inr e0, V.int 0)])))) := same_new hp0
  have hp0' : H p0 = none := Same.free sA hp0
  have hne : p0 ≠ fd := fun z => by rw [z, upd_same] at hp0; cases hp0
  refine ⟨sB _ _ upd_same, [(Sum.inr e0, V.ref p0)], rfl, Nat.le_of_ble_eq_true rfl, ?_⟩
  have sC : Same H (upd (upd (upd H fd (.dK [])) p0 (.frz od0 (.dK (mergeK [] [(Sum.inr e0, V.int 0)])))) fd (.dK (mergeK [] [(Sum.inr e0, V.ref p0)]))) := Same.mut (Same.trans sA sB) hfd
  refine ⟨_, rfl, _, rfl, _, _, _, _, rfl, rfl, .inl (.inl (sC _ _ ha)), at2, c, b, xs, ys, rfl, .inr ⟨.inl (.inl (sC _ _ hc)), .inl (.inl (sC _ _ hb)), ?_⟩⟩
  refine for_d (wd_zipT pc pb) (fun (d : List (Str × Part)) (σ : L2.St) (H' : Hp) => ∃ y1 y2 y3, σ = [some (V.ref fa), some (V.ref a), some (V.ref c), some (V.ref fd), y1, y2, y3] ∧ Same H H' ∧ ∃ kvs, H' fd = some (.dK kvs) ∧
    DicP (rDic rInt) H' kvs (d.foldl (fun d x => put d x.1 (mkD (moved (dictOf F.table x.2.1) x.2.2))) [(e0, [(e0, 0)])])) ?_ ?_ ?_ ?_
  · refine ⟨none, none, none, rfl, sC, _, upd_same, ?_⟩
    refine .cons ⟨rfl, p0, od0, [(Sum.inr e0, V.int 0)], rfl, ?_, .cons ⟨rfl, rfl⟩ .nil⟩ .nil
    rw [upd_ne hne, upd_same]
    rfl
  · rintro d σ H' ⟨_, _, _, _, s, _⟩
    exact ⟨.inl (.inl (s _ _ hc)), .inl (.inl (s _ _ hb))⟩
  · rintro d pq r x σ H1 H' el ⟨y1, y2, y3, rfl, s, kvs, hk, dp⟩ ⟨t, u1, v1, rfl, hT, rfl, rfl, hv1⟩
    have s1 : Same H1 (upd H1 t (.tup [V.str pq.1, v1])) := same_new hT
    obtain ⟨b1, x1, x2, rfl, hb1, rfl, rfl⟩ := mo (kp_of (s.trans s1)) hv1
    have hmem : pq.2 ∈ as := by
      have : pq ∈ params.zip as := by rw [el]; simp
      exact (List.of_mem_zip this).2
    have hy2 : Nm (keys F.table) pq.2.1 := has _ hmem
    refine ⟨t, _, rfl, .inl (.inl upd_same), rfl, _, _, rfl, _, _, rfl, ?_⟩
    refine ⟨b1, _, rfl, .inl (.inl hb1), rfl, _, _, rfl, _, _, rfl, rfl, rfl, ?_⟩
    refine ⟨_, rfl, fa, dx, _, rfl, s1 _ _ (s _ _ hfa), ff_no (by decide +kernel), _, rfl, _, F, pq.2.1, rfl, mo (kp_of (s.trans s1)) hv, hy2, fun v3 H3 s3 hr3 => ?_⟩
    refine ⟨_, rfl, _, dictOf F.table pq.2.1, pq.2.2, rfl, hr3, by have := wf.dlen hy2; omega, fun pz zs H4 s4 hpn hpz pa => ?_⟩
    obtain ⟨ps, eps, hps⟩ := parts_refs (K := K) pa
    refine ⟨pz, ps, _, rfl, .inl (.inl (by rw [hpz, eps])), hps, fun q1 hq1 => ⟨q1, _, rfl, upd_same, trivial, fun od2 => ?_⟩⟩
    rw [upd_upd]
    have s5 : Same H4 (upd H4 q1 (.frz od2 (.dK (mergeK [] ((moved (dictOf F.table pq.2.1) pq.2.2).map fun p => (Sum.inr p.1, V.int p.2)))))) := same_new hq1
    have sAll := s1.trans (s3.trans (s4.trans s5))
    have hk2 := sAll _ _ hk
    have hl2 : kvs.length < sizeLine := by
      rw [dp.len]
      have : ∀ (l : List (Str × Part)) (z : Tab), (l.foldl (fun d x => put d x.1 (mkD (moved (dictOf F.table x.2.1) x.2.2))) z).length ≤ z.length + l.length := by
        intro l
        induction l with
        | nil => intro z; exact Nat.le_refl _
        | cons w r ih =>
          intro z
          have h1 := ih (put z w.1 (mkD (moved (dictOf F.table w.2.1) w.2.2)))
          have h2 := put_len (l := z) (k := w.1) (v := mkD (moved (dictOf F.table w.2.1) w.2.2))
          rw [List.foldl_cons, List.length_cons]
          omega
      have h1 := this d [(e0, [(e0, 0)])]
      have h2 : d.length ≤ (params.zip as).length := by rw [el, List.length_append]; omega
      rw [List.length_zip] at h2
      have h3 : [(e0, [(e0, (0 : Int))])].length = 1 := rfl
      exact sz1000 (by omega)
    refine ⟨_, rfl, _, rfl, fd, _, rfl, .inl ⟨kvs, Sum.inr pq.1, hk2, rfl, hl2, rfl⟩, _, _, _, rfl, Same.mut (s.trans sAll) hfd, _, upd_same, ?_⟩
    rw [List.foldl_append, List.foldl_cons, List.foldl_nil]
    have k2 := kp_mut (o' := .dK (putK kvs (Sum.inr pq.1) (V.ref q1))) hk2 (fun z => z)
    refine DicP.put (dp.mono ((kp_of sAll).trans k2)) ⟨q1, od2, _, rfl, ?_, merge_mk _⟩
    exact k2 _ _ trivial upd_same
  · rintro σ H1 ⟨y1, y2, y3, rfl, s, kvs, hk, dp⟩
    refine ⟨_, rfl, fd, _, rfl, hk, trivial, fun od => ?_⟩
    exact q _ _ (Same.mut s hfd) ⟨fd, od, _, rfl, upd_same, dp.mono (kp_mut hk (fun z => z))⟩
end Fp

/-! ## FpFormD -/
set_option Elab.async false
set_option linter.all false
set_option maxRecDepth 100000
set_option maxHeartbeats 2000000
namespace Fp
open PySem PySem.Spec PyProof.Rows L2
variable {P : Program} {w : World} {K : PySem.W.Frag} {mg : Str → Option Value} {base : Heap}
/-! ### Form.after -/
/-- its names within ks -/
def SmIn (ks : List Str) : Sm → Prop
  | .skip => True
  | .sets xs => ∀ x ∈ xs, x.1 ∈ ks ∧ Nm ks x.2.1
  | .mx _ x ps => x ∈ ks ∧ ∀ p ∈ ps, Nm ks p.1
  | .call _ as rs => (∀ p ∈ as, Nm ks p.1) ∧ ∀ x ∈ rs, x ∈ ks
def isCall : Sm → Bool
  | .call _ _ _ => true
  | _ => false
theorem WfF.fewM {S : List Str} {F : Fm} (h : WfF S F) {y : Str} {c : Int} (hy : Nm (keys F.table) y) : ∀ p ∈ moved (dictOf F.table y) c, p.1 ∈ S := fun p hp => by
  have : p.1 ∈ (moved (dictOf F.table y) c).map (·.1) := List.mem_map.mpr ⟨p, hp, rfl⟩
  rw [moved_keys] at this
  exact (h.dict hy).2.1 _ this
theorem fold_put_len {α β : Type} (f : β → Str) (g : β → α) : ∀ (l : List β) (z : List (Str × α)), (l.foldl (fun t x => put t (f x) (g x)) z).length ≤ z.length + l.length
  | [], z => Nat.le_refl _
  | w :: r, z => by
    have h1 := fold_put_len f g r (put z (f w) (g w))
    have h2 := put_len (l := z) (k := f w) (v := g w)
    rw [List.foldl_cons, List.length_cons]
    omega
theorem WfF.kind {S : List Str} {F : Fm} (h : WfF S F) {x : Str} (hx : x ∈ keys F.table) : lk F.kinds x = some (kindIn F.kinds x) := by
  obtain ⟨k, e⟩ := lk_some ((h.ks x).mpr hx)
  unfold kindIn
  rw [e]
  rfl
theorem dgK {H : Hp} {k : V} {F : Fm} {S : List Str} {x : Str} (h : rDic rStr H k F.kinds) (wf : WfF S F) (hx : x ∈ keys F.table) : ∃ d v, k = .ref d ∧ DGet H d (.str x) (some v) ∧ v = .str (kindIn F.kinds x) := by
  obtain ⟨d, od, kvs, rfl, hd, dp⟩ := h
  obtain ⟨v, ev, hv⟩ := dp.some (wf.kind hx)
  exact ⟨d, v, rfl, dgR (.inr ⟨od, hd⟩) ev, hv⟩
/-- slots: 0 self, 1 statement, 2 table, 3 x, 4 y, 5 c, 6 rows -/
abbrev N_Form_after : List Str := [Str.ofString "self", Str.ofString "statement", Str.ofString "table", Str.ofString "x", Str.ofString "y", Str.ofString "c", Str.ofString "rows"]
theorem sc_Form_after : FnScope N_Form_after [Str.ofString "self", Str.ofString "statement"] (defScope s_Form_after) := ⟨rfl, rfl, rfl, by decide +kernel, rfl, by decide +kernel, by decide +kernel⟩
def S_Form_after (K : PySem.W.Frag) : Sq := fun vs H Q => ∃ (v u : V) (F : Fm) (s : Sm) (S : List Str), vs = [v, u] ∧ rFm K H v F ∧ rSm H u s ∧ SynSm s ∧ WfF S F ∧ SmIn (keys F.table) s ∧ isCall s = false ∧ ∀ v' H', Same H H' → rFm K H' v' (after_ F s) → Q v' H'
theorem r_Form_after (T : Tx K mg) (c_moved : Cal P w K mg base 1 "moved" S_moved) (c_joined : Cal P w K mg base 1 "joined" S_joined) (c_Form_dict_of : CalF P w K mg base 1 (cF K) "dict_of" (S_Form_dict_of K))
    (c_Form_with_table : CalF P w K mg base 3 (cF K) "with_table" (S_Form_with_table K)) : FnR P w K mg base CX0 4 (a_Form_after K) (sp (S_Form_after K)) := by
  refine fr_of (S := (S_Form_after K)) (N := N_Form_after) (f_Form_after T) sc_Form_after (fun vs H Q h => by first | (obtain ⟨rfl, _⟩ := h; rfl) | (obtain ⟨_, rfl, _⟩ := h; rfl) | (obtain ⟨_, _, rfl, _⟩ := h; rfl) | (obtain ⟨_, _, _, rfl, _⟩ := h; rfl) | (obtain ⟨_, _, _, _, rfl, _⟩ := h; rfl) | (obtain ⟨_, _, _, _, _, rfl, _⟩ := h; rfl) | (obtain ⟨_, _, _, _, _, _, rfl, _⟩ := h; rfl) | (obtain ⟨_, _, _, _, _, _, _, rfl, _⟩ := h; rfl) | (obtain ⟨_, _, _, _, _, _, _, _, rfl, _⟩ := h; rfl) | (obtain ⟨_, _, _, _, _, _, _, _, _, rfl, _⟩ := h; rfl) | (obtain ⟨_, _, _, _, _, _, _, _, _, _, rfl, _⟩ := h; rfl) | (obtain ⟨_, _, _, _, _, _, _, _, _, _, _, rfl, _⟩ := h; rfl) | (obtain ⟨_, _, _, _, _, _, _, _, _, _, _, _, rfl, _⟩ := h; rfl) | (obtain ⟨_, _, _, _, _, _, _, _, _, _, _, _, _, rfl, _⟩ := h; rfl) | (obtain ⟨_, _, _, _, _, _, _, _, _, _, _, _, _, _, rfl, _⟩ := h; rfl) | (obtain ⟨_, _, _, _, _, _, _, _, _, _, _, _, _, _, _, rfl, _⟩ := h; rfl) | (obtain ⟨_, _, _, _, _, _, _, _, _, _, _, _, _, _, _, _, rfl, _⟩ := h; rfl)) (fun _ _ _ _ _ _ us hl => match us, hl with | [_, _], _ => rfl) (fun cdv A outer s H vs Q E hr h => ?_)
  obtain ⟨v, u, F, s, S, rfl, hv, hu, syn, wf, sin, nc, q⟩ := h
  obtain ⟨fa, rfl, dx, k, p, r, t, hfa, hk, hp, hr', ht⟩ := id hv
  obtain ⟨b, od, kvs, rfl, hb, dp⟩ := ht
  obtain ⟨a, rest, rfl, ha⟩ := hu.head
  refine ⟨_, (pss_cons (ps_set (i := 2) sc_Form_after.nd rfl (.inl rfl) (pe_callTy call_dictD rfl (n_dict T) (by decide +kernel) (pa_cons (peFld K rfl (pv 0)) pa_nil)))
      (pss_cons (ps_if (pt_cmpR op_eq (pe_ix (ixT K rfl) (pv 1) pe_int (fun _ _ => rfl)) pe_str (nomark _)) (pss_one (ps_for PassesOwn.never rfl (piTup K rfl (pe_ix (ixT K rfl) (pv 1) pe_int (fun _ _ => rfl))) (pgTup (n := 3) K rfl rfl (pgs_cons (pg_name (i := 3) sc_Form_after.nd rfl (.inl rfl)) (pgs_cons (pg_name (i := 4) sc_Form_after.nd rfl (.inl rfl)) (pgs_cons (pg_name (i := 5) sc_Form_after.nd rfl (.inl rfl)) pgs_nil)))) (pss_one (ps_dput (hu_of hr) (pv 2) (pv 3) (pcall c_joined hr (by decide) rfl (pa_cons (pe_dget (hu_of hr) (peFld K rfl (pv 0)) (pv 3) (fun _ _ => rfl)) (pa_cons (pcall c_moved hr (by decide) rfl (pa_cons (pmeth c_Form_dict_of hr (by decide) (pv 0) (pa_cons (pv 4) pa_nil)) (pa_cons (pv 5) pa_nil))) pa_nil))) rfl)))) (pss_one (ps_if (pt_cmpR op_ne (pe_ix (ixT K rfl) (pv 1) pe_int (fun _ _ => rfl)) pe_str (nomark _)) (pss_cons (ps_set (i := 6) sc_Form_after.nd rfl (.inl rfl) (pe_lst pa_nil))
          (pss_cons (ps_for PassesOwn.never rfl (piTup K rfl (pe_ix (ixT K rfl) (pv 1) pe_int (fun _ _ => rfl))) (pgTup (n := 2) K rfl rfl (pgs_cons (pg_name (i := 4) sc_Form_after.nd rfl (.inl rfl)) (pgs_cons (pg_name (i := 5) sc_Form_after.nd rfl (.inl rfl)) pgs_nil))) (pss_one (ps_expr (pe_bm PySem.F.plainAttrs_list PySem.F.slot_list_extend PySem.F.type_list_extend mt_extend (pv 6) (pa_cons (pcall c_moved hr (by decide) rfl (pa_cons (pmeth c_Form_dict_of hr (by decide) (pv 0) (pa_cons (pv 4) pa_nil)) (pa_cons (pv 5) pa_nil))) pa_nil)))))
          (pss_one (ps_dput (hu_of hr) (pv 2) (pe_ix (ixT K rfl) (pv 1) pe_int (fun _ _ => rfl)) (pcall c_joined hr (by decide) rfl (pa_cons (pe_dget (hu_of hr) (peFld K rfl (pv 0)) (pe_ix (ixT K rfl) (pv 1) pe_int (fun _ _ => rfl)) (fun _ _ => rfl)) (pa_cons (pv 6) pa_nil))) rfl)))) pss_nil)))
      (pss_one (ps_ret (pmeth c_Form_with_table hr (by decide) (pv 0) (pa_cons (pe_fz (pv 2)) pa_nil)))))), ?_⟩
  refine ⟨_, rfl, fa, _, dx, _, _, rfl, hfa, c_Form T, no_its_table T, ff_t, b, kvs, rfl, .inr ⟨od, hb⟩, fun tb htb => ?_⟩
  have s0 : Same H (upd H tb (.dK kvs)) := same_new htb
  have dp0 : DicP (rDic rInt) (upd H tb (.dK kvs)) kvs F.table := dp.mono (kp_of s0)
  have fin : ∀ (H1 : Hp) (ks : List (Key × V)) (t1 : Tab) (y3 y4 y5 y6 : Option V), Same H H1 → H1 tb = some (.dK ks) → DicP (rDic rInt) H1 ks t1 → after_ F s = { F with table := t1 } →
      tRet (tMd (cF K) "with_table" (S_Form_with_table K) (tVar 0) (tCons (tFz (tVar 2)) tNil)) { nx := fun _ H' => Q .non H', rt := Q } [some (V.ref fa), some (V.ref a), some (V.ref tb), y3, y4, y5, y6] H1 := by
    intro H1 ks t1 y3 y4 y5 y6 s1 hk1 dp1 e
    refine ⟨_, rfl, fa, dx, _, rfl, s1 _ _ hfa, ff_no (by decide +kernel), _, rfl, tb, _, rfl, hk1, trivial, fun od2 => ?_⟩
    have s2 : Same H (upd H1 tb (.frz od2 (.dK ks))) := Same.mut s1 htb
    refine ⟨_, _, F, t1, rfl, mo (kp_of s2) hv, ⟨tb, od2, ks, rfl, upd_same, dp1.mono (kp_mut hk1 (fun z => z))⟩, fun v' H2 s3 hf => q _ _ (s2.trans s3) ?_⟩
    rw [e]
    exact hf
  refine ⟨_, rfl, _, _, _, _, rfl, rfl, .inl (.inl (s0 _ _ ha)), at0, rfl, ?_⟩
  cases s with
  | call f as rs => cases nc
  | skip =>
    refine ⟨false, sF (show wordOf .skip ≠ "set" from show ("skip" : Str) ≠ "set" from by decide +kernel), iteF ?_⟩
    refine ⟨_, rfl, _, _, _, _, rfl, rfl, .inl (.inl (s0 _ _ ha)), at0, rfl, false, nbF rfl, iteF ?_⟩
    exact fin _ kvs F.table none none none none s0 upd_same dp0 rfl
  | sets xs =>
    refine ⟨true, sT rfl, iteT ?_⟩
    obtain ⟨a', y, e, h, hy⟩ := hu
    cases e
    obtain ⟨c, ys, rfl, hc, pc⟩ := hy
    refine ⟨_, rfl, _, _, _, _, rfl, rfl, .inl (.inl (s0 _ _ h)), at1, c, rfl, ⟨ys, .inl (.inl (s0 _ _ hc))⟩, ?_⟩
    refine for_d (wd_tup pc) (fun (d : List (Str × Str × Int)) (σ : L2.St) (H' : Hp) => ∃ y3 y4 y5, σ = [some (V.ref fa), some (V.ref a), some (V.ref tb), y3, y4, y5, none] ∧ Same H H' ∧ ∃ ks, H' tb = some (.dK ks) ∧
      DicP (rDic rInt) H' ks (d.foldl (fun t x => put t x.1 (joined (kindIn F.kinds x.1) (moved (dictOf F.table x.2.1) x.2.2))) F.table)) ?_ ?_ ?_ ?_
    · exact ⟨none, none, none, rfl, s0, kvs, upd_same, dp0⟩
    · rintro d σ H' ⟨_, _, _, _, s, _⟩
      exact .inl (.inl (s _ _ hc))
    · rintro d x r z σ H1 H' el ⟨y3, y4, y5, rfl, s, ks, hk1, dp1⟩ ⟨rfl, rz⟩
      obtain ⟨b1, x1, x2, x3, rfl, hb1, rfl, rfl, rfl⟩ := mo (kp_of s) rz
      have hmem : x ∈ xs := by rw [el]; simp
      obtain ⟨hx, hy⟩ := sin x hmem
      obtain ⟨dk, v1, rfl, dg1, ev1⟩ := dgK (mo (kp_of s) hk) wf hx
      have hfl := wf.dlen hy
      refine ⟨b1, _, rfl, .inl (.inl hb1), rfl, _, _, rfl, _, _, rfl, _, _, rfl, rfl, ?_⟩
      refine ⟨_, rfl, fa, _, dx, _, _, rfl, s _ _ hfa, c_Form T, no_its_kinds T, ff_k, _, rfl, dk, v1, rfl, dg1, ?_⟩
      refine ⟨_, rfl, fa, dx, _, rfl, s _ _ hfa, ff_no (by decide +kernel), _, rfl, _, F, x.2.1, rfl, mo (kp_of s) hv, hy, fun v3 H3 s3 hr3 => ?_⟩
      refine ⟨_, rfl, _, _, _, rfl, hr3, by omega, fun pz zs H4 s4 hpn hpz pa => ?_⟩
      refine ⟨_, pz, zs, _, by rw [ev1], hpz, pa, by rw [moved_len]; omega, ⟨S, by have := wf.few; omega, wf.fewM hy⟩, fun v5 H5 s5 hr5 => ?_⟩
      have sA := s3.trans (s4.trans s5)
      have hl : ks.length < sizeLine := by
        rw [dp1.len]
        have h1 := fold_put_len (fun x : Str × Str × Int => x.1) (fun x => joined (kindIn F.kinds x.1) (moved (dictOf F.table x.2.1) x.2.2)) d F.table
        have h2 : d.length ≤ xs.length := by rw [el, List.length_append]; omega
        have h3 := wf.len
        have h4 := syn.1
        exact sz1000 (Nat.le_trans h1 (by omega))
      refine ⟨_, rfl, _, rfl, tb, _, rfl, .inl ⟨ks, Sum.inr x.1, sA _ _ hk1, rfl, hl, rfl⟩, _, _, _, rfl, Same.mut (s.trans sA) htb, _, upd_same, ?_⟩
      rw [List.foldl_append, List.foldl_cons, List.foldl_nil]
      have k2 := kp_mut (o' := .dK (putK ks (Sum.inr x.1) v5)) (sA _ _ hk1) (fun z => z)
      exact DicP.put (dp1.mono ((kp_of sA).trans k2)) (mo k2 hr5)
    · rintro σ H1 ⟨y3, y4, y5, rfl, s, ks, hk1, dp1⟩
      exact fin H1 ks _ y3 y4 y5 none s hk1 dp1 rfl
  | mx hi x ps =>
    refine ⟨false, sF (wo_mt hi x ps), iteF ?_⟩
    refine ⟨_, rfl, _, _, _, _, rfl, rfl, .inl (.inl (s0 _ _ ha)), at0, rfl, true, nbT (fun z => wo_ms hi x ps (V.str.inj z)), iteT ?_⟩
    obtain ⟨a', y, e, h, hy⟩ := hu
    cases e
    obtain ⟨c, ys, rfl, hc, pc⟩ := hy
    refine ⟨Nat.zero_le _, fun f hfn => ?_⟩
    have s1 : Same (upd H tb (.dK kvs)) (upd (upd H tb (.dK kvs)) f (.lst [])) := same_new hfn
    have sB := Same.trans s0 s1
    have hfn' : H f = none := Same.free s0 hfn
    refine ⟨_, rfl, _, _, _, _, rfl, rfl, .inl (.inl (sB _ _ h)), at2, c, rfl, ⟨ys, .inl (.inl (sB _ _ hc))⟩, ?_⟩
    refine for_d (wd_tup pc) (fun (d : List Part) (σ : L2.St) (H' : Hp) => ∃ y4 y5, σ = [some (V.ref fa), some (V.ref a), some (V.ref tb), none, y4, y5, some (V.ref f)] ∧ Same (upd H tb (.dK kvs)) H' ∧ ∃ acc, H' f = some (.lst acc) ∧
      Paired (rPart H') acc (d.flatMap fun p => moved (dictOf F.table p.1) p.2)) ?_ ?_ ?_ ?_
    · exact ⟨none, none, rfl, s1, [], upd_same, .nil⟩
    · rintro d σ H' ⟨_, _, _, s, _⟩
      exact .inl (.inl (s _ _ (s0 _ _ hc)))
    · rintro d p r z σ H1 H' el ⟨y4, y5, rfl, s, acc, hk1, pa⟩ ⟨rfl, rz⟩
      have sH : Same H H' := Same.trans s0 s
      obtain ⟨b1, x1, x2, rfl, hb1, rfl, rfl⟩ := mo (kp_of sH) rz
      have hmem : p ∈ ps := by rw [el]; simp
      have hy := sin.2 p hmem
      have hfl := wf.dlen hy
      refine ⟨b1, _, rfl, .inl (.inl hb1), rfl, _, _, rfl, _, _, rfl, rfl, ?_⟩
      refine ⟨_, rfl, .inl ⟨rfl, _, .inl (.inl hk1)⟩, _, rfl, fa, dx, _, rfl, sH _ _ hfa, ff_no (by decide +kernel), _, rfl, _, F, p.1, rfl, mo (kp_of sH) hv, hy, fun v3 H3 s3 hr3 => ?_⟩
      refine ⟨_, rfl, _, _, _, rfl, hr3, by omega, fun pz zs H4 s4 hpn hpz pz2 => ?_⟩
      have sA := s3.trans s4
      have hk2 := sA _ _ hk1
      refine ⟨f, pz, acc, zs, rfl, rfl, hk2, hpz, ?_, _, _, rfl, Same.mut (Same.trans s sA) hfn, _, upd_same, ?_⟩
      · rw [Paired.length pa, Paired.length pz2, moved_len]
        have hb8 : ∀ l : List Part, (∀ p ∈ l, p ∈ ps) → (l.flatMap fun p => moved (dictOf F.table p.1) p.2).length ≤ 8 * l.length := by
          intro l
          induction l with
          | nil => intro _; exact Nat.le_refl _
          | cons w r ih =>
            intro hw
            have h1 := ih fun p hp => hw p (List.mem_cons_of_mem _ hp)
            have h2 := wf.dlen (sin.2 w (hw w List.mem_cons_self))
            rw [List.flatMap_cons, List.length_append, moved_len, List.length_cons]
            omega
        have h1 := hb8 d fun p hp => by rw [el]; exact List.mem_append_left _ hp
        have h2 : d.length ≤ ps.length := by rw [el, List.length_append]; omega
        have h3 := syn.2.2.1
        exact sz1000' (by omega)
      · rw [flat_snoc]
        have k2 : Keep H4 (upd H4 f (.lst (acc ++ zs))) := kp_mut hk2 (fun z => z)
        exact Paired.app (mos ((kp_of sA).trans k2) pa) (mos k2 pz2)
    · rintro σ H1 ⟨y4, y5, rfl, s, acc, hk1, pa⟩
      have sH : Same H H1 := Same.trans s0 s
      obtain ⟨dk, v1, rfl, dg1, ev1⟩ := dgK (mo (kp_of sH) hk) wf sin.1
      refine ⟨_, rfl, fa, _, dx, _, _, rfl, sH _ _ hfa, c_Form T, no_its_kinds T, ff_k, _, rfl, _, _, _, _, rfl, rfl, .inl (.inl (sH _ _ h)), at1, dk, v1, rfl, dg1, _, rfl, ?_⟩
      have hb8 : ∀ l : List Part, (∀ p ∈ l, p ∈ ps) → (l.flatMap fun p => moved (dictOf F.table p.1) p.2).length ≤ 8 * l.length := by
        intro l
        induction l with
        | nil => intro _; exact Nat.le_refl _
        | cons w r ih =>
          intro hw
          have h1 := ih fun p hp => hw p (List.mem_cons_of_mem _ hp)
          have h2 := wf.dlen (sin.2 w (hw w List.mem_cons_self))
          rw [List.flatMap_cons, List.length_append, moved_len, List.length_cons]
          omega
      have h1 := hb8 ps fun p hp => hp
      have h3 := syn.2.2.1
      refine ⟨_, f, acc, _, by rw [ev1], hk1, pa, by omega, ⟨S, by have := wf.few; omega, fun p hp => ?_⟩, fun v5 H5 s5 hr5 => ?_⟩
      · obtain ⟨p0, hp0, hp1⟩ := List.mem_flatMap.mp hp
        exact wf.fewM (sin.2 p0 hp0) p hp1
      have ht := s5 _ _ (s _ _ upd_same)
      have hl : kvs.length < sizeLine := by
        rw [dp.len]
        have := wf.len
        exact sz1000 (by omega)
      refine ⟨_, rfl, _, rfl, _, _, _, _, rfl, rfl, .inl (.inl (s5 _ _ (sH _ _ h))), at1, tb, _, rfl, .inl ⟨kvs, Sum.inr x, ht, rfl, hl, rfl⟩, ?_⟩
      have k2 := kp_mut (o' := .dK (putK kvs (Sum.inr x) v5)) ht (fun z => z)
      exact fin _ _ (put F.table x (joined (kindIn F.kinds x) (ps.flatMap fun p => moved (dictOf F.table p.1) p.2))) none y4 y5 (some (V.ref f)) (Same.mut (sH.trans s5) htb) upd_same (DicP.put (dp.mono ((kp_of (sH.trans s5)).trans k2)) (mo k2 hr5)) rfl
/-! ### Form.behind -/
/-- slots: 0 self, 1 statement, 2 other, 3 table, 4 inside, 5 x, 6 result -/
abbrev N_Form_behind : List Str := [Str.ofString "self", Str.ofString "statement", Str.ofString "other", Str.ofString "table", Str.ofString "inside", Str.ofString "x", Str.ofString "result"]
theorem sc_Form_behind : FnScope N_Form_behind [Str.ofString "self", Str.ofString "statement", Str.ofString "other"] (defScope s_Form_behind) := ⟨rfl, rfl, rfl, by decide +kernel, rfl, by decide +kernel, by decide +kernel⟩
def S_Form_behind (K : PySem.W.Frag) : Sq := fun vs H Q => ∃ (v u x : V) (F O : Fm) (f : Str) (as : List Part) (rs : List Str) (S : List Str), vs = [v, u, x] ∧ rFm K H v F ∧ rSm H u (.call f as rs) ∧ rFm K H x O ∧
  WfF S F ∧ (∀ p ∈ as, Nm (keys F.table) p.1) ∧ as.length ≤ 8 ∧ rs.length ≤ 60 ∧ (∀ x ∈ rs, x ∈ keys F.table) ∧ as.length = O.params.length ∧ (∀ r ∈ O.results, r ∈ keys O.table) ∧ e0 ∉ keys O.table ∧
  (∀ x r, lk O.table x = some r → r.length ≤ 9 ∧ ∀ y ∈ keys r, y = e0 ∨ y ∈ O.params) ∧ ∀ v' H', Same H H' → rFm K H' v' (behind_ F as rs O) → Q v' H'
/-- what handed finds -/
theorem handed_lk {t : Tab} {z : Str} : ∀ (l : List (Str × Part)) (d : Tab), (z ∈ keys d ∨ ∃ x ∈ l, x.1 = z) → ∃ r, lk (l.foldl (fun d x => put d x.1 (mkD (moved (dictOf t x.2.1) x.2.2))) d) z = some r ∧ (lk d z = some r ∨ ∃ x ∈ l, x.1 = z ∧ r = mkD (moved (dictOf t x.2.1) x.2.2))
  | [], d, h => by
    obtain ⟨r, e⟩ := lk_some (h.elim id fun ⟨x, hx, _⟩ => absurd hx (List.not_mem_nil))
    exact ⟨r, e, .inl e⟩
  | w :: l, d, h => by
    have hz : z ∈ keys (put d w.1 (mkD (moved (dictOf t w.2.1) w.2.2))) ∨ ∃ x ∈ l, x.1 = z := by
      rcases h with h | ⟨x, hx, e⟩
      · exact .inl (mem_keys_put.mpr (.inr h))
      · rcases List.mem_cons.mp hx with q | hx
        · exact .inl (mem_keys_put.mpr (.inl (by rw [← e, q])))
        · exact .inr ⟨x, hx, e⟩
    obtain ⟨r, e, hr⟩ := handed_lk (t := t) l _ hz
    refine ⟨r, e, ?_⟩
    rcases hr with hr | ⟨x, hx, ez, hr⟩
    · rw [lk_put] at hr
      by_cases ez : z = w.1
      · rw [if_pos ez] at hr
        exact .inr ⟨w, List.mem_cons_self, ez.symm, (Option.some.inj hr).symm⟩
      · rw [if_neg ez] at hr
        exact .inl hr
    · exact .inr ⟨x, List.mem_cons_of_mem _ hx, ez, hr⟩
theorem mkD_keys {α : Type} {z : Str} {l : List (Str × α)} : z ∈ keys (mkD l) ↔ z ∈ keys l := by
  have go : ∀ (l d : List (Str × α)), z ∈ keys (l.foldl (fun d p => put d p.1 p.2) d) ↔ z ∈ keys d ∨ z ∈ keys l := by
    intro l
    induction l with
    | nil => intro d; simp [keys]
    | cons p r ih =>
      intro d
      rw [List.foldl_cons, ih, mem_keys_put]
      show _ ↔ _ ∨ z ∈ p.1 :: keys r
      rw [List.mem_cons]
      constructor
      · rintro ((h | h) | h)
        · exact .inr (.inl h)
        · exact .inl h
        · exact .inr (.inr h)
      · rintro (h | h | h)
        · exact .inl (.inr h)
        · exact .inl (.inl h)
        · exact .inr h
  have := go l []
  simpa [mkD, keys] using this
/-- a row that is handed: its sources in S, not too long -/
theorem handed_row {S : List Str} {F : Fm} (wf : WfF S F) {as : List Part} (has : ∀ p ∈ as, Nm (keys F.table) p.1) {params : List Str} {z : Str} (hl : as.length = params.length) (hz : z = e0 ∨ z ∈ params) :
    ∃ r, lk (handed F.table as params) z = some r ∧ (r = [(e0, 0)] ∧ z = e0 ∨ ∃ x ∈ params.zip as, x.1 = z ∧ r = mkD (moved (dictOf F.table x.2.1) x.2.2)) ∧ r.length ≤ 8 ∧ ∀ y ∈ keys r, y ∈ S := by
  have h : z ∈ keys ([(e0, [(e0, (0 : Int))])] : Tab) ∨ ∃ x ∈ params.zip as, x.1 = z := by
    rcases hz with e | hz
    · exact .inl (by rw [e]; simp [keys])
    · obtain ⟨i, hi, e⟩ := List.mem_iff_getElem.mp hz
      refine .inr ⟨(params[i], as[i]'(by omega)), ?_, e⟩
      rw [List.mem_iff_getElem]
      exact ⟨i, by rw [List.length_zip]; omega, by simp⟩
  obtain ⟨r, e, hr⟩ := handed_lk (t := F.table) _ _ h
  refine ⟨r, e, ?_⟩
  rcases hr with hr | ⟨x, hx, exz, hr⟩
  · have hr' : (if e0 = z then some [(e0, (0 : Int))] else none) = some r := hr
    by_cases ez : e0 = z
    · rw [if_pos ez] at hr'
      have e3 := (Option.some.inj hr').symm
      refine ⟨.inl ⟨e3, ez.symm⟩, by rw [e3]; decide, fun y hy => ?_⟩
      rw [e3] at hy
      rw [show y = e0 from by simpa [keys] using hy]
      exact wf.z
    · rw [if_neg ez] at hr'
      cases hr'
  · have hm : x.2 ∈ as := (List.of_mem_zip (a := x.1) (b := x.2) hx).2
    have hy := has _ hm
    refine ⟨.inr ⟨x, hx, exz, hr⟩, ?_, fun y hy2 => ?_⟩
    · rw [hr]
      have := mkD_len (moved (dictOf F.table x.2.1) x.2.2)
      rw [moved_len] at this
      exact Nat.le_trans this (wf.dlen hy)
    · rw [hr] at hy2
      have := mkD_keys.mp hy2
      obtain ⟨p, hp, e4⟩ := List.mem_map.mp this
      rw [← e4]
      exact wf.fewM hy p hp
theorem r_Form_behind (T : Tx K mg) (c_led_row : Cal P w K mg base 2 "led_row" S_led_row) (c_Form_dict_of : CalF P w K mg base 1 (cF K) "dict_of" (S_Form_dict_of K)) (c_Form_handed : CalF P w K mg base 2 (cF K) "handed" (S_Form_handed K))
    (c_Form_with_table : CalF P w K mg base 3 (cF K) "with_table" (S_Form_with_table K)) : FnR P w K mg base CX0 4 (a_Form_behind K) (sp (S_Form_behind K)) := by
  refine fr_of (S := (S_Form_behind K)) (N := N_Form_behind) (f_Form_behind T) sc_Form_behind (fun vs H Q h => by first | (obtain ⟨rfl, _⟩ := h; rfl) | (obtain ⟨_, rfl, _⟩ := h; rfl) | (obtain ⟨_, _, rfl, _⟩ := h; rfl) | (obtain ⟨_, _, _, rfl, _⟩ := h; rfl) | (obtain ⟨_, _, _, _, rfl, _⟩ := h; rfl) | (obtain ⟨_, _, _, _, _, rfl, _⟩ := h; rfl) | (obtain ⟨_, _, _, _, _, _, rfl, _⟩ := h; rfl) | (obtain ⟨_, _, _, _, _, _, _, rfl, _⟩ := h; rfl) | (obtain ⟨_, _, _, _, _, _, _, _, rfl, _⟩ := h; rfl) | (obtain ⟨_, _, _, _, _, _, _, _, _, rfl, _⟩ := h; rfl) | (obtain ⟨_, _, _, _, _, _, _, _, _, _, rfl, _⟩ := h; rfl) | (obtain ⟨_, _, _, _, _, _, _, _, _, _, _, rfl, _⟩ := h; rfl) | (obtain ⟨_, _, _, _, _, _, _, _, _, _, _, _, rfl, _⟩ := h; rfl) | (obtain ⟨_, _, _, _, _, _, _, _, _, _, _, _, _, rfl, _⟩ := h; rfl) | (obtain ⟨_, _, _, _, _, _, _, _, _, _, _, _, _, _, rfl, _⟩ := h; rfl) | (obtain ⟨_, _, _, _, _, _, _, _, _, _, _, _, _, _, _, rfl, _⟩ := h; rfl) | (obtain ⟨_, _, _, _, _, _, _, _, _, _, _, _, _, _, _, _, rfl, _⟩ := h; rfl)) (fun _ _ _ _ _ _ us hl => match us, hl with | [_, _, _], _ => rfl) (fun cdv A outer s H vs Q E hr h => ?_)
  obtain ⟨v, u, x, F, O, f, as, rs, S, rfl, hv, hu, ho, wf, has, hla, hlr, hrs, hlp, hres, hz0, hrow, q⟩ := h
  obtain ⟨fa, rfl, dx, k, p, r, t, hfa, hk, hp, hr', ht⟩ := id hv
  obtain ⟨oa, rfl, dx2, k2, p2, r2, t2, hoa, hk2, hp2, hr2, ht2⟩ := id ho
  obtain ⟨b, od, kvs, rfl, hb, dp⟩ := ht
  obtain ⟨a, y, z, rfl, ha, hy, hz⟩ := id hu
  obtain ⟨c, xs, rfl, hc, pc⟩ := hz
  obtain ⟨e, es, rfl, he, pe⟩ := hr2
  refine ⟨_, (pss_cons (ps_par (i := 3) (j := 4) rfl sc_Form_behind.nd rfl rfl (by decide) rfl rfl (pa_cons (pe_callTy call_dictD rfl (n_dict T) (by decide +kernel) (pa_cons (peFld K rfl (pv 0)) pa_nil)) (pa_cons (pmeth c_Form_handed hr (by decide) (pv 0) (pa_cons (pv 1) (pa_cons (peFld K rfl (pv 2)) pa_nil))) pa_nil)) (by rfl))
      (pss_cons (ps_for PassesOwn.never rfl (RZ.pi_zipA rfl (n_zip T) (pa_cons (pe_ix (ixT K rfl) (pv 1) pe_int (fun _ _ => rfl)) (pa_cons (peFld K rfl (pv 2)) pa_nil))) (pgTup (n := 2) K rfl rfl (pgs_cons (pg_name (i := 5) sc_Form_behind.nd rfl (.inl rfl)) (pgs_cons (pg_name (i := 6) sc_Form_behind.nd rfl (.inl rfl)) pgs_nil))) (pss_one (ps_dput (hu_of hr) (pv 3) (pv 5) (pcall c_led_row hr (by decide) rfl (pa_cons (pe_dget (hu_of hr) (peFld K rfl (pv 0)) (pv 5) (fun _ _ => rfl)) (pa_cons (pmeth c_Form_dict_of hr (by decide) (pv 2) (pa_cons (pv 6) pa_nil)) (pa_cons (pv 4) pa_nil)))) rfl)))
      (pss_one (ps_ret (pmeth c_Form_with_table hr (by decide) (pv 0) (pa_cons (pe_fz (pv 3)) pa_nil)))))), ?_⟩
  refine ⟨_, rfl, fa, _, dx, _, _, rfl, hfa, c_Form T, no_its_table T, ff_t, b, kvs, rfl, .inr ⟨od, hb⟩, fun tb htb => ?_⟩
  have s0 : Same H (upd H tb (.dK kvs)) := same_new htb
  have dp0 : DicP (rDic rInt) (upd H tb (.dK kvs)) kvs F.table := dp.mono (kp_of s0)
  refine ⟨_, rfl, fa, dx, _, rfl, s0 _ _ hfa, ff_no (by decide +kernel), _, rfl, _, rfl, oa, _, dx2, _, _, rfl, s0 _ _ hoa, c_Form T, no_its_params T, ff_p, ?_⟩
  refine ⟨_, _, _, F, f, as, rs, O.params, S, rfl, mo (kp_of s0) hv, mo (kp_of s0) hu, mo (kp_of s0) hp2, wf, has, by omega, fun vh H1 s1 hh => ?_⟩
  refine ⟨_, _, rfl, ?_⟩
  have sA := s0.trans s1
  refine ⟨_, rfl, _, _, _, _, rfl, rfl, .inl (.inl (sA _ _ ha)), at3, _, rfl, oa, _, dx2, _, _, rfl, sA _ _ hoa, c_Form T, no_its_results T, ff_r, c, e, xs, es, rfl, .inr ⟨.inl (.inl (sA _ _ hc)), .inl (.inl (sA _ _ he)), ?_⟩⟩
  refine for_d (wd_zipT pc pe) (fun (d : List (Str × Str)) (σ : L2.St) (H' : Hp) => ∃ y5 y6, σ = [some (V.ref fa), some (V.ref a), some (V.ref oa), some (V.ref tb), some vh, y5, y6] ∧ Same H H' ∧ rTab H' vh (handed F.table as O.params) ∧ ∃ ks, H' tb = some (.dK ks) ∧
    DicP (rDic rInt) H' ks (d.foldl (fun t x => put t x.1 (ledRow (kindIn F.kinds x.1) (dictOf O.table x.2) (handed F.table as O.params))) F.table)) ?_ ?_ ?_ ?_
  · exact ⟨none, none, rfl, sA, hh, kvs, s1 _ _ upd_same, dp0.mono (kp_of s1)⟩
  · rintro d σ H' ⟨_, _, _, s, _⟩
    exact ⟨.inl (.inl (s _ _ hc)), .inl (.inl (s _ _ he))⟩
  · rintro d xr rr z0 σ H2 H' el ⟨y5, y6, rfl, s, hh2, ks, hk1, dp1⟩ ⟨t9, u1, v1, rfl, hT, rfl, rfl, rfl⟩
    have st : Same H2 (upd H2 t9 (.tup [V.str xr.1, V.str xr.2])) := same_new hT
    have sH := s.trans st
    have hmem : xr ∈ rs.zip O.results := by rw [el]; simp
    have hm2 := List.of_mem_zip (a := xr.1) (b := xr.2) hmem
    have hx := hrs _ hm2.1
    have hr9 := hres _ hm2.2
    have hne : xr.2 ≠ e0 := fun z => hz0 (z ▸ hr9)
    obtain ⟨row, er⟩ := lk_some hr9
    have edo : dictOf O.table xr.2 = row := by
      unfold dictOf
      rw [if_neg hne, er]
      rfl
    obtain ⟨hrl, hrs2⟩ := hrow _ _ er
    obtain ⟨dk, v2, rfl, dg1, ev1⟩ := dgK (mo (kp_of sH) hk) wf hx
    have hled : ∀ p ∈ row, ∃ r, lk (handed F.table as O.params) p.1 = some r ∧ r.length ≤ 8 ∧ ∀ y ∈ keys r, y ∈ S := fun p hp => by
      obtain ⟨r, h1, _, h2, h3⟩ := handed_row wf has (z := p.1) hlp (hrs2 p.1 (List.mem_map.mpr ⟨p, hp, rfl⟩))
      exact ⟨r, h1, h2, h3⟩
    have hfl : ∀ l : List Part, (∀ p ∈ l, p ∈ row) → (l.flatMap (ledP (handed F.table as O.params))).length ≤ 8 * l.length := by
      intro l
      induction l with
      | nil => intro _; exact Nat.le_refl _
      | cons w r ih =>
        intro hw
        have h1 := ih fun p hp => hw p (List.mem_cons_of_mem _ hp)
        obtain ⟨r0, h2, h3, _⟩ := hled w (hw w List.mem_cons_self)
        have h4 : (ledP (handed F.table as O.params) w).length ≤ 8 := by
          unfold ledP
          rw [h2, moved_len]
          exact h3
        rw [List.flatMap_cons, List.length_append, List.length_cons]
        omega
    refine ⟨t9, _, rfl, .inl (.inl upd_same), rfl, _, _, rfl, _, _, rfl, rfl, ?_⟩
    refine ⟨_, rfl, fa, _, dx, _, _, rfl, sH _ _ hfa, c_Form T, no_its_kinds T, ff_k, _, rfl, dk, v2, rfl, dg1, ?_⟩
    refine ⟨_, rfl, oa, dx2, _, rfl, sH _ _ hoa, ff_no (by decide +kernel), _, rfl, _, O, xr.2, rfl, mo (kp_of sH) ho, .inr hr9, fun v3 H3 s3 hr3 => ?_⟩
    rw [edo] at hr3
    refine ⟨_, rfl, _, v3, vh, row, handed F.table as O.params, by rw [ev1], hr3, mo (kp_of (st.trans s3)) hh2, fun p hp => ?_, by omega, ?_, ?_, fun v5 H5 s5 hr5 => ?_⟩
    · obtain ⟨r, h1, h2, _⟩ := hled p hp
      exact ⟨r, h1, by omega⟩
    · have := hfl row fun p hp => hp
      omega
    · refine ⟨S, by have := wf.few; omega, fun p hp => ?_⟩
      obtain ⟨p0, hp0, hp1⟩ := List.mem_flatMap.mp hp
      obtain ⟨r, h1, _, h3⟩ := hled p0 hp0
      unfold ledP at hp1
      rw [h1] at hp1
      have : p.1 ∈ (moved r p0.2).map (·.1) := List.mem_map.mpr ⟨p, hp1, rfl⟩
      rw [moved_keys] at this
      exact h3 _ this
    have sB := st.trans (s3.trans s5)
    have hl : ks.length < sizeLine := by
      rw [dp1.len]
      have h1 := fold_put_len (fun x : Str × Str => x.1) (fun x => ledRow (kindIn F.kinds x.1) (dictOf O.table x.2) (handed F.table as O.params)) d F.table
      have h2 : d.length ≤ (rs.zip O.results).length := by rw [el, List.length_append]; omega
      rw [List.length_zip] at h2
      have h3 := wf.len
      exact sz1000 (Nat.le_trans h1 (by omega))
    refine ⟨_, rfl, _, rfl, tb, _, rfl, .inl ⟨ks, Sum.inr xr.1, sB _ _ hk1, rfl, hl, rfl⟩, ?_⟩
    have k2 := kp_mut (o' := .dK (putK ks (Sum.inr xr.1) v5)) (sB _ _ hk1) (fun z => z)
    refine ⟨_, _, rfl, Same.mut (s.trans sB) htb, mo ((kp_of sB).trans k2) hh2, _, upd_same, ?_⟩
    rw [List.foldl_append, List.foldl_cons, List.foldl_nil, edo]
    exact DicP.put (dp1.mono ((kp_of sB).trans k2)) (mo k2 hr5)
  · rintro σ H2 ⟨y5, y6, rfl, s, hh2, ks, hk1, dp1⟩
    refine ⟨_, rfl, fa, dx, _, rfl, s _ _ hfa, ff_no (by decide +kernel), _, rfl, tb, _, rfl, hk1, trivial, fun od2 => ?_⟩
    have s2 : Same H (upd H2 tb (.frz od2 (.dK ks))) := Same.mut s htb
    exact ⟨_, _, F, _, rfl, mo (kp_of s2) hv, ⟨tb, od2, ks, rfl, upd_same, dp1.mono (kp_mut hk1 (fun z => z))⟩, fun v' H3 s3 hf => q _ _ (s2.trans s3) hf⟩
end Fp

/-! ## FpProcA -/
set_option Elab.async false
set_option linter.all false
set_option maxRecDepth 100000
set_option maxHeartbeats 2000000
namespace Fp
open PySem PySem.Spec PyProof.Rows L2
variable {P : Program} {w : World} {K : PySem.W.Frag} {mg : Str → Option Value} {base : Heap}
abbrev cP (K : PySem.W.Frag) : Addr := He.ga K "Procedure"
abbrev cG (K : PySem.W.Frag) : Addr := He.ga K "Program"
def rWy : Rep Wy := fun H v x => ∃ a u, v = .ref a ∧ H a = some (.tup [.int x.a, .int x.b, u]) ∧ rSm H u x.s
instance : Mono rWy := ⟨fun k ⟨a, u, e, h, p⟩ => ⟨a, u, e, k _ _ trivial h, mo k p⟩⟩
theorem slt_keep {H H' : Hp} {a C dx : Addr} {vs : List (Option V)} (k : Keep H H') (h : SlX.Slt H a C dx vs) : SlX.Slt H' a C dx vs := by
  rcases h with ⟨h, e⟩ | ⟨h1, h2⟩
  · exact .inl ⟨k _ _ trivial h, e⟩
  · exact .inr ⟨k _ _ trivial h1, k _ _ trivial h2⟩
def PrAt (K : PySem.W.Frag) (H : Hp) (a : Addr) (p : Pr) : Prop := ∃ dx k u r w, SlX.Slt H a (cP K) dx [some k, some u, some r, some (.int p.size), some w] ∧ rDic rStr H k p.kinds ∧ rTup rStr H u p.params ∧ rTup rStr H r p.results ∧ rLst rWy H w p.ways
theorem PrAt.mono {H H' : Hp} {a : Addr} {p : Pr} (k : Keep H H') (h : PrAt K H a p) : PrAt K H' a p := let ⟨dx, x, u, r, w, e, h1, h2, h3, h4⟩ := h; ⟨dx, x, u, r, w, slt_keep k e, mo k h1, mo k h2, mo k h3, mo k h4⟩
def rPr (K : PySem.W.Frag) : Rep Pr := fun H v p => ∃ a, v = .ref a ∧ PrAt K H a p
instance : Mono (rPr K) := ⟨fun k ⟨a, e, h⟩ => ⟨a, e, h.mono k⟩⟩
/-! ### what a Procedure answers -/
/-- slots: 0 self -/
abbrev N_Procedure_params : List Str := [Str.ofString "self"]
theorem sc_Procedure_params : FnScope N_Procedure_params [Str.ofString "self"] (defScope s_Procedure_params) := ⟨rfl, rfl, rfl, by decide +kernel, rfl, by decide +kernel, by decide +kernel⟩
def S_Procedure_params (K : PySem.W.Frag) : Sq := fun vs H Q => ∃ (v : V) (p : Pr), vs = [v] ∧ rPr K H v p ∧ ∀ v', rTup rStr H v' p.params → Q v' H
theorem r_Procedure_params (T : Tx K mg) : FnR P w K mg base CX0 1 (a_Procedure_params K) (sp (S_Procedure_params K)) := by
  refine fr_of (S := (S_Procedure_params K)) (N := N_Procedure_params) (f_Procedure_params T) sc_Procedure_params (fun vs H Q h => by first | (obtain ⟨rfl, _⟩ := h; rfl) | (obtain ⟨_, rfl, _⟩ := h; rfl) | (obtain ⟨_, _, rfl, _⟩ := h; rfl) | (obtain ⟨_, _, _, rfl, _⟩ := h; rfl) | (obtain ⟨_, _, _, _, rfl, _⟩ := h; rfl) | (obtain ⟨_, _, _, _, _, rfl, _⟩ := h; rfl) | (obtain ⟨_, _, _, _, _, _, rfl, _⟩ := h; rfl) | (obtain ⟨_, _, _, _, _, _, _, rfl, _⟩ := h; rfl) | (obtain ⟨_, _, _, _, _, _, _, _, rfl, _⟩ := h; rfl) | (obtain ⟨_, _, _, _, _, _, _, _, _, rfl, _⟩ := h; rfl) | (obtain ⟨_, _, _, _, _, _, _, _, _, _, rfl, _⟩ := h; rfl) | (obtain ⟨_, _, _, _, _, _, _, _, _, _, _, rfl, _⟩ := h; rfl) | (obtain ⟨_, _, _, _, _, _, _, _, _, _, _, _, rfl, _⟩ := h; rfl) | (obtain ⟨_, _, _, _, _, _, _, _, _, _, _, _, _, rfl, _⟩ := h; rfl) | (obtain ⟨_, _, _, _, _, _, _, _, _, _, _, _, _, _, rfl, _⟩ := h; rfl) | (obtain ⟨_, _, _, _, _, _, _, _, _, _, _, _, _, _, _, rfl, _⟩ := h; rfl) | (obtain ⟨_, _, _, _, _, _, _, _, _, _, _, _, _, _, _, _, rfl, _⟩ := h; rfl)) (fun _ _ _ _ _ _ us hl => match us, hl with | [_], _ => rfl) (fun cdv A outer s H vs Q E hr h => ?_)
  obtain ⟨v, p, rfl, ⟨a, rfl, dx, k, u, r, w1, hs, hk, hu, hr', hw⟩, q⟩ := h
  refine ⟨_, (pss_one (ps_ret (peSl K rfl (pv 0)))), ?_⟩
  exact ⟨_, rfl, a, _, dx, _, _, _, _, rfl, hs, c_Procedure T, sl_held_params T, rfl, q _ hu⟩
/-- slots: 0 self -/
abbrev N_Procedure_results : List Str := [Str.ofString "self"]
theorem sc_Procedure_results : FnScope N_Procedure_results [Str.ofString "self"] (defScope s_Procedure_results) := ⟨rfl, rfl, rfl, by decide +kernel, rfl, by decide +kernel, by decide +kernel⟩
def S_Procedure_results (K : PySem.W.Frag) : Sq := fun vs H Q => ∃ (v : V) (p : Pr), vs = [v] ∧ rPr K H v p ∧ ∀ v', rTup rStr H v' p.results → Q v' H
theorem r_Procedure_results (T : Tx K mg) : FnR P w K mg base CX0 1 (a_Procedure_results K) (sp (S_Procedure_results K)) := by
  refine fr_of (S := (S_Procedure_results K)) (N := N_Procedure_results) (f_Procedure_results T) sc_Procedure_results (fun vs H Q h => by first | (obtain ⟨rfl, _⟩ := h; rfl) | (obtain ⟨_, rfl, _⟩ := h; rfl) | (obtain ⟨_, _, rfl, _⟩ := h; rfl) | (obtain ⟨_, _, _, rfl, _⟩ := h; rfl) | (obtain ⟨_, _, _, _, rfl, _⟩ := h; rfl) | (obtain ⟨_, _, _, _, _, rfl, _⟩ := h; rfl) | (obtain ⟨_, _, _, _, _, _, rfl, _⟩ := h; rfl) | (obtain ⟨_, _, _, _, _, _, _, rfl, _⟩ := h; rfl) | (obtain ⟨_, _, _, _, _, _, _, _, rfl, _⟩ := h; rfl) | (obtain ⟨_, _, _, _, _, _, _, _, _, rfl, _⟩ := h; rfl) | (obtain ⟨_, _, _, _, _, _, _, _, _, _, rfl, _⟩ := h; rfl) | (obtain ⟨_, _, _, _, _, _, _, _, _, _, _, rfl, _⟩ := h; rfl) | (obtain ⟨_, _, _, _, _, _, _, _, _, _, _, _, rfl, _⟩ := h; rfl) | (obtain ⟨_, _, _, _, _, _, _, _, _, _, _, _, _, rfl, _⟩ := h; rfl) | (obtain ⟨_, _, _, _, _, _, _, _, _, _, _, _, _, _, rfl, _⟩ := h; rfl) | (obtain ⟨_, _, _, _, _, _, _, _, _, _, _, _, _, _, _, rfl, _⟩ := h; rfl) | (obtain ⟨_, _, _, _, _, _, _, _, _, _, _, _, _, _, _, _, rfl, _⟩ := h; rfl)) (fun _ _ _ _ _ _ us hl => match us, hl with | [_], _ => rfl) (fun cdv A outer s H vs Q E hr h => ?_)
  obtain ⟨v, p, rfl, ⟨a, rfl, dx, k, u, r, w1, hs, hk, hu, hr', hw⟩, q⟩ := h
  refine ⟨_, (pss_one (ps_ret (peSl K rfl (pv 0)))), ?_⟩
  exact ⟨_, rfl, a, _, dx, _, _, _, _, rfl, hs, c_Procedure T, sl_held_results T, rfl, q _ hr'⟩
/-- slots: 0 self -/
abbrev N_Procedure_names : List Str := [Str.ofString "self"]
theorem sc_Procedure_names : FnScope N_Procedure_names [Str.ofString "self"] (defScope s_Procedure_names) := ⟨rfl, rfl, rfl, by decide +kernel, rfl, by decide +kernel, by decide +kernel⟩
def S_Procedure_names (K : PySem.W.Frag) : Sq := fun vs H Q => ∃ (v : V) (p : Pr), vs = [v] ∧ rPr K H v p ∧ ∀ v' H', Same H H' → rLst rStr H' v' (keys p.kinds) → Q v' H'
theorem keys_strs {α : Type} {R : Rep α} {H : Hp} {kvs : List (Key × V)} {t : List (Str × α)} (h : DicP R H kvs t) : (kvs.map fun kv => kV kv.1) = (keys t).map V.str := by
  have := congrArg (List.map kV) h.keys
  rw [List.map_map, List.map_map] at this
  exact this
theorem r_Procedure_names (T : Tx K mg) : FnR P w K mg base CX0 1 (a_Procedure_names K) (sp (S_Procedure_names K)) := by
  refine fr_of (S := (S_Procedure_names K)) (N := N_Procedure_names) (f_Procedure_names T) sc_Procedure_names (fun vs H Q h => by first | (obtain ⟨rfl, _⟩ := h; rfl) | (obtain ⟨_, rfl, _⟩ := h; rfl) | (obtain ⟨_, _, rfl, _⟩ := h; rfl) | (obtain ⟨_, _, _, rfl, _⟩ := h; rfl) | (obtain ⟨_, _, _, _, rfl, _⟩ := h; rfl) | (obtain ⟨_, _, _, _, _, rfl, _⟩ := h; rfl) | (obtain ⟨_, _, _, _, _, _, rfl, _⟩ := h; rfl) | (obtain ⟨_, _, _, _, _, _, _, rfl, _⟩ := h; rfl) | (obtain ⟨_, _, _, _, _, _, _, _, rfl, _⟩ := h; rfl) | (obtain ⟨_, _, _, _, _, _, _, _, _, rfl, _⟩ := h; rfl) | (obtain ⟨_, _, _, _, _, _, _, _, _, _, rfl, _⟩ := h; rfl) | (obtain ⟨_, _, _, _, _, _, _, _, _, _, _, rfl, _⟩ := h; rfl) | (obtain ⟨_, _, _, _, _, _, _, _, _, _, _, _, rfl, _⟩ := h; rfl) | (obtain ⟨_, _, _, _, _, _, _, _, _, _, _, _, _, rfl, _⟩ := h; rfl) | (obtain ⟨_, _, _, _, _, _, _, _, _, _, _, _, _, _, rfl, _⟩ := h; rfl) | (obtain ⟨_, _, _, _, _, _, _, _, _, _, _, _, _, _, _, rfl, _⟩ := h; rfl) | (obtain ⟨_, _, _, _, _, _, _, _, _, _, _, _, _, _, _, _, rfl, _⟩ := h; rfl)) (fun _ _ _ _ _ _ us hl => match us, hl with | [_], _ => rfl) (fun cdv A outer s H vs Q E hr h => ?_)
  obtain ⟨v, p, rfl, ⟨a, rfl, dx, k, u, r, w1, hs, ⟨d, od, kvs, rfl, hd, dp⟩, hu, hr', hw⟩, q⟩ := h
  refine ⟨_, (pss_one (ps_ret (pe_fz (pe_callTy (call_listD rfl) rfl (n_list T) (by decide +kernel) (pa_cons (peSl K rfl (pv 0)) pa_nil))))), ?_⟩
  refine ⟨_, rfl, a, _, dx, _, _, _, _, rfl, hs, c_Procedure T, sl_held_kinds T, rfl, d, kvs, rfl, .inr ⟨od, hd⟩, fun l hl => ⟨l, _, rfl, upd_same, trivial, fun od2 => ?_⟩⟩
  rw [upd_upd]
  exact q _ _ (same_new hl) ⟨l, od2, _, rfl, upd_same, by rw [keys_strs dp]; exact of_strs _⟩
/-- slots: 0 self -/
abbrev N_Procedure_ways : List Str := [Str.ofString "self"]
theorem sc_Procedure_ways : FnScope N_Procedure_ways [Str.ofString "self"] (defScope s_Procedure_ways) := ⟨rfl, rfl, rfl, by decide +kernel, rfl, by decide +kernel, by decide +kernel⟩
def S_Procedure_ways (K : PySem.W.Frag) : Sq := fun vs H Q => ∃ (v : V) (p : Pr), vs = [v] ∧ rPr K H v p ∧ ∀ v' H', Same H H' → rLst rWy H' v' p.ways → Q v' H'
theorem r_Procedure_ways (T : Tx K mg) : FnR P w K mg base CX0 1 (a_Procedure_ways K) (sp (S_Procedure_ways K)) := by
  refine fr_of (S := (S_Procedure_ways K)) (N := N_Procedure_ways) (f_Procedure_ways T) sc_Procedure_ways (fun vs H Q h => by first | (obtain ⟨rfl, _⟩ := h; rfl) | (obtain ⟨_, rfl, _⟩ := h; rfl) | (obtain ⟨_, _, rfl, _⟩ := h; rfl) | (obtain ⟨_, _, _, rfl, _⟩ := h; rfl) | (obtain ⟨_, _, _, _, rfl, _⟩ := h; rfl) | (obtain ⟨_, _, _, _, _, rfl, _⟩ := h; rfl) | (obtain ⟨_, _, _, _, _, _, rfl, _⟩ := h; rfl) | (obtain ⟨_, _, _, _, _, _, _, rfl, _⟩ := h; rfl) | (obtain ⟨_, _, _, _, _, _, _, _, rfl, _⟩ := h; rfl) | (obtain ⟨_, _, _, _, _, _, _, _, _, rfl, _⟩ := h; rfl) | (obtain ⟨_, _, _, _, _, _, _, _, _, _, rfl, _⟩ := h; rfl) | (obtain ⟨_, _, _, _, _, _, _, _, _, _, _, rfl, _⟩ := h; rfl) | (obtain ⟨_, _, _, _, _, _, _, _, _, _, _, _, rfl, _⟩ := h; rfl) | (obtain ⟨_, _, _, _, _, _, _, _, _, _, _, _, _, rfl, _⟩ := h; rfl) | (obtain ⟨_, _, _, _, _, _, _, _, _, _, _, _, _, _, rfl, _⟩ := h; rfl) | (obtain ⟨_, _, _, _, _, _, _, _, _, _, _, _, _, _, _, rfl, _⟩ := h; rfl) | (obtain ⟨_, _, _, _, _, _, _, _, _, _, _, _, _, _, _, _, rfl, _⟩ := h; rfl)) (fun _ _ _ _ _ _ us hl => match us, hl with | [_], _ => rfl) (fun cdv A outer s H vs Q E hr h => ?_)
  obtain ⟨v, p, rfl, ⟨a, rfl, dx, k, u, r, w1, hs, hk, hu, hr', ⟨d, od, xs, rfl, hd, pd⟩⟩, q⟩ := h
  refine ⟨_, (pss_one (ps_ret (pe_fz (pe_callTy (cLst K rfl) rfl (n_list T) (by decide +kernel) (pa_cons (peSl K rfl (pv 0)) pa_nil))))), ?_⟩
  refine ⟨_, rfl, a, _, dx, _, _, _, _, rfl, hs, c_Procedure T, sl_held_ways T, rfl, d, xs, rfl, .inl (.inl (.inr ⟨_, hd⟩)), fun l hl => ⟨l, _, rfl, upd_same, trivial, fun od2 => ?_⟩⟩
  rw [upd_upd]
  exact q _ _ (same_new hl) ⟨l, od2, _, rfl, upd_same, mos (kp_new hl) pd⟩
/-- the kind of a source -/
def kd (ks : List (Str × Str)) (y : Str) : Str := if y = e0 then "plain" else kindIn ks y
/-- slots: 0 self, 1 source -/
abbrev N_Procedure_kind : List Str := [Str.ofString "self", Str.ofString "source"]
theorem sc_Procedure_kind : FnScope N_Procedure_kind [Str.ofString "self", Str.ofString "source"] (defScope s_Procedure_kind) := ⟨rfl, rfl, rfl, by decide +kernel, rfl, by decide +kernel, by decide +kernel⟩
def S_Procedure_kind (K : PySem.W.Frag) : Sq := fun vs H Q => ∃ (v : V) (p : Pr) (y : Str), vs = [v, .str y] ∧ rPr K H v p ∧ Nm (keys p.kinds) y ∧ Q (.str (kd p.kinds y)) H
theorem r_Procedure_kind (T : Tx K mg) : FnR P w K mg base CX0 1 (a_Procedure_kind K) (sp (S_Procedure_kind K)) := by
  refine fr_of (S := (S_Procedure_kind K)) (N := N_Procedure_kind) (f_Procedure_kind T) sc_Procedure_kind (fun vs H Q h => by first | (obtain ⟨rfl, _⟩ := h; rfl) | (obtain ⟨_, rfl, _⟩ := h; rfl) | (obtain ⟨_, _, rfl, _⟩ := h; rfl) | (obtain ⟨_, _, _, rfl, _⟩ := h; rfl) | (obtain ⟨_, _, _, _, rfl, _⟩ := h; rfl) | (obtain ⟨_, _, _, _, _, rfl, _⟩ := h; rfl) | (obtain ⟨_, _, _, _, _, _, rfl, _⟩ := h; rfl) | (obtain ⟨_, _, _, _, _, _, _, rfl, _⟩ := h; rfl) | (obtain ⟨_, _, _, _, _, _, _, _, rfl, _⟩ := h; rfl) | (obtain ⟨_, _, _, _, _, _, _, _, _, rfl, _⟩ := h; rfl) | (obtain ⟨_, _, _, _, _, _, _, _, _, _, rfl, _⟩ := h; rfl) | (obtain ⟨_, _, _, _, _, _, _, _, _, _, _, rfl, _⟩ := h; rfl) | (obtain ⟨_, _, _, _, _, _, _, _, _, _, _, _, rfl, _⟩ := h; rfl) | (obtain ⟨_, _, _, _, _, _, _, _, _, _, _, _, _, rfl, _⟩ := h; rfl) | (obtain ⟨_, _, _, _, _, _, _, _, _, _, _, _, _, _, rfl, _⟩ := h; rfl) | (obtain ⟨_, _, _, _, _, _, _, _, _, _, _, _, _, _, _, rfl, _⟩ := h; rfl) | (obtain ⟨_, _, _, _, _, _, _, _, _, _, _, _, _, _, _, _, rfl, _⟩ := h; rfl)) (fun _ _ _ _ _ _ us hl => match us, hl with | [_, _], _ => rfl) (fun cdv A outer s H vs Q E hr h => ?_)
  obtain ⟨v, p, y, rfl, ⟨a, rfl, dx, k, u, r, w1, hs, ⟨d, od, kvs, rfl, hd, dp⟩, hu, hr', hw⟩, hy, q⟩ := h
  refine ⟨_, (pss_cons (ps_if (pt_cmpR op_eq (pv 1) (pe_gs rfl (z_ZERO T)) (nomark _)) (pss_one (ps_ret pe_str)) pss_nil)
      (pss_cons (ps_if (pt_cmp (pc_dnotin (hu_of hr) (pv 1) (peSl K rfl (pv 0)))) (pss_one ps_never) pss_nil)
      (pss_one (ps_ret (pe_dget (hu_of hr) (peSl K rfl (pv 0)) (pv 1) (fun _ _ => rfl)))))), ?_⟩
  refine ⟨_, rfl, rfl, ?_⟩
  by_cases e : y = e0
  · refine ⟨true, sT e, iteT ?_⟩
    unfold kd at q
    rw [if_pos e] at q
    exact q
  · obtain ⟨z, ez⟩ := lk_some (hy.resolve_left e)
    obtain ⟨v, ev, rfl⟩ := dp.some ez
    unfold kd kindIn at q
    rw [if_neg e, ez] at q
    refine ⟨false, sF e, iteF ⟨_, rfl, _, rfl, a, _, dx, _, _, _, _, rfl, hs, c_Procedure T, sl_held_kinds T, rfl, d, _, rfl, dgR (.inr ⟨od, hd⟩) rfl, _, rfl, ?_⟩⟩
    rw [ev]
    exact iteF ⟨_, rfl, a, _, dx, _, _, _, _, rfl, hs, c_Procedure T, sl_held_kinds T, rfl, _, rfl, d, _, rfl, dgR (.inr ⟨od, hd⟩) ev, q⟩
/-- slots: 0 self, 1 index -/
abbrev N_Procedure_need_way : List Str := [Str.ofString "self", Str.ofString "index"]
theorem sc_Procedure_need_way : FnScope N_Procedure_need_way [Str.ofString "self", Str.ofString "index"] (defScope s_Procedure_need_way) := ⟨rfl, rfl, rfl, by decide +kernel, rfl, by decide +kernel, by decide +kernel⟩
def S_Procedure_need_way (K : PySem.W.Frag) : Sq := fun vs H Q => ∃ (v : V) (p : Pr) (i : Nat), vs = [v, .int i] ∧ rPr K H v p ∧ i < p.ways.length ∧ Q .non H
theorem r_Procedure_need_way (T : Tx K mg) : FnR P w K mg base CX0 1 (a_Procedure_need_way K) (sp (S_Procedure_need_way K)) := by
  refine fr_of (S := (S_Procedure_need_way K)) (N := N_Procedure_need_way) (f_Procedure_need_way T) sc_Procedure_need_way (fun vs H Q h => by first | (obtain ⟨rfl, _⟩ := h; rfl) | (obtain ⟨_, rfl, _⟩ := h; rfl) | (obtain ⟨_, _, rfl, _⟩ := h; rfl) | (obtain ⟨_, _, _, rfl, _⟩ := h; rfl) | (obtain ⟨_, _, _, _, rfl, _⟩ := h; rfl) | (obtain ⟨_, _, _, _, _, rfl, _⟩ := h; rfl) | (obtain ⟨_, _, _, _, _, _, rfl, _⟩ := h; rfl) | (obtain ⟨_, _, _, _, _, _, _, rfl, _⟩ := h; rfl) | (obtain ⟨_, _, _, _, _, _, _, _, rfl, _⟩ := h; rfl) | (obtain ⟨_, _, _, _, _, _, _, _, _, rfl, _⟩ := h; rfl) | (obtain ⟨_, _, _, _, _, _, _, _, _, _, rfl, _⟩ := h; rfl) | (obtain ⟨_, _, _, _, _, _, _, _, _, _, _, rfl, _⟩ := h; rfl) | (obtain ⟨_, _, _, _, _, _, _, _, _, _, _, _, rfl, _⟩ := h; rfl) | (obtain ⟨_, _, _, _, _, _, _, _, _, _, _, _, _, rfl, _⟩ := h; rfl) | (obtain ⟨_, _, _, _, _, _, _, _, _, _, _, _, _, _, rfl, _⟩ := h; rfl) | (obtain ⟨_, _, _, _, _, _, _, _, _, _, _, _, _, _, _, rfl, _⟩ := h; rfl) | (obtain ⟨_, _, _, _, _, _, _, _, _, _, _, _, _, _, _, _, rfl, _⟩ := h; rfl)) (fun _ _ _ _ _ _ us hl => match us, hl with | [_, _], _ => rfl) (fun cdv A outer s H vs Q E hr h => ?_)
  obtain ⟨v, p, i, rfl, ⟨a, rfl, dx, k, u, r, w1, hs, hk, hu, hr', ⟨d, od, xs, rfl, hd, pd⟩⟩, hi, q⟩ := h
  refine ⟨_, (pss_one (ps_if (pt_not (pt_chain op_le op_lt pe_int (pv 1) (pe_callB (cLen K rfl) rfl (n_len T) (by decide +kernel) (pa_cons (peSl K rfl (pv 0)) pa_nil)))) (pss_one ps_never) pss_nil)), ?_⟩
  refine ⟨_, rfl, _, _, rfl, rfl, true, bT (by omega), iteT ⟨_, rfl, a, _, dx, _, _, _, _, rfl, hs, c_Procedure T, sl_held_ways T, rfl, _, _, rfl, .inl ⟨_, .inl (.inr ⟨_, hd⟩), rfl⟩, _, _, rfl, rfl, true, bT (by rw [Paired.length pd]; omega), iteF q⟩⟩
/-- slots: 0 self, 1 index -/
abbrev N_Procedure_way : List Str := [Str.ofString "self", Str.ofString "index"]
theorem sc_Procedure_way : FnScope N_Procedure_way [Str.ofString "self", Str.ofString "index"] (defScope s_Procedure_way) := ⟨rfl, rfl, rfl, by decide +kernel, rfl, by decide +kernel, by decide +kernel⟩
def S_Procedure_way (K : PySem.W.Frag) : Sq := fun vs H Q => ∃ (v : V) (p : Pr) (i : Nat) (x : Wy), vs = [v, .int i] ∧ rPr K H v p ∧ p.ways[i]? = some x ∧ ∀ v', rWy H v' x → Q v' H
theorem r_Procedure_way (T : Tx K mg) (c_Procedure_need_way : CalS P w K mg base 1 (cP K) "need_way" (S_Procedure_need_way K)) : FnR P w K mg base CX0 2 (a_Procedure_way K) (sp (S_Procedure_way K)) := by
  refine fr_of (S := (S_Procedure_way K)) (N := N_Procedure_way) (f_Procedure_way T) sc_Procedure_way (fun vs H Q h => by first | (obtain ⟨rfl, _⟩ := h; rfl) | (obtain ⟨_, rfl, _⟩ := h; rfl) | (obtain ⟨_, _, rfl, _⟩ := h; rfl) | (obtain ⟨_, _, _, rfl, _⟩ := h; rfl) | (obtain ⟨_, _, _, _, rfl, _⟩ := h; rfl) | (obtain ⟨_, _, _, _, _, rfl, _⟩ := h; rfl) | (obtain ⟨_, _, _, _, _, _, rfl, _⟩ := h; rfl) | (obtain ⟨_, _, _, _, _, _, _, rfl, _⟩ := h; rfl) | (obtain ⟨_, _, _, _, _, _, _, _, rfl, _⟩ := h; rfl) | (obtain ⟨_, _, _, _, _, _, _, _, _, rfl, _⟩ := h; rfl) | (obtain ⟨_, _, _, _, _, _, _, _, _, _, rfl, _⟩ := h; rfl) | (obtain ⟨_, _, _, _, _, _, _, _, _, _, _, rfl, _⟩ := h; rfl) | (obtain ⟨_, _, _, _, _, _, _, _, _, _, _, _, rfl, _⟩ := h; rfl) | (obtain ⟨_, _, _, _, _, _, _, _, _, _, _, _, _, rfl, _⟩ := h; rfl) | (obtain ⟨_, _, _, _, _, _, _, _, _, _, _, _, _, _, rfl, _⟩ := h; rfl) | (obtain ⟨_, _, _, _, _, _, _, _, _, _, _, _, _, _, _, rfl, _⟩ := h; rfl) | (obtain ⟨_, _, _, _, _, _, _, _, _, _, _, _, _, _, _, _, rfl, _⟩ := h; rfl)) (fun _ _ _ _ _ _ us hl => match us, hl with | [_, _], _ => rfl) (fun cdv A outer s H vs Q E hr h => ?_)
  obtain ⟨v, p, i, x, rfl, hp, hi, q⟩ := h
  obtain ⟨a, rfl, dx, k, u, r, w1, hs, hk, hu, hr', ⟨d, od, xs, rfl, hd, pd⟩⟩ := id hp
  refine ⟨_, (pss_cons (ps_expr (pmethS c_Procedure_need_way hr (by decide) (pv 0) (pa_cons (pv 1) pa_nil)))
      (pss_one (ps_ret (pe_ix (ixL K rfl) (peSl K rfl (pv 0)) (pv 1) (fun _ _ => rfl))))), ?_⟩
  have hlt : i < p.ways.length := (List.getElem?_eq_some_iff.mp hi).1
  obtain ⟨v2, ev, hv⟩ := Paired.at' pd hi
  refine ⟨_, rfl, a, dx, _, rfl, hs, _, rfl, _, p, i, rfl, hp, hlt, ?_⟩
  exact ⟨_, rfl, a, _, dx, _, _, _, _, rfl, hs, c_Procedure T, sl_held_ways T, rfl, _, rfl, _, _, _, _, rfl, rfl, .inl (.inr ⟨_, hd⟩), atI_nat ev, q _ hv⟩
/-! ### kinds_of, begin, entered -/
structure WfK (ks : List (Str × Str)) : Prop where
  nd : (keys ks).Nodup
  ne : e0 ∉ keys ks
  len : ks.length ≤ 8
/-- slots: 0 procedure*, 1 name -/
abbrev N_kinds_of : List Str := [Str.ofString "procedure", Str.ofString "name"]
theorem sc_kinds_of : FnScope N_kinds_of [Str.ofString "procedure"] (defScope s_kinds_of) := ⟨rfl, rfl, rfl, by decide +kernel, rfl, by decide +kernel, by decide +kernel⟩
def S_kinds_of (K : PySem.W.Frag) : Sq := fun vs H Q => ∃ (v : V) (p : Pr), vs = [v] ∧ rPr K H v p ∧ WfK p.kinds ∧ ∀ v' H', Same H H' → rDic rStr H' v' p.kinds → Q v' H'
theorem kd_map {ks : List (Str × Str)} (wf : WfK ks) : mkD ((keys ks).map fun x => (x, kd ks x)) = ks := by
  have e : ((keys ks).map fun x => (x, kd ks x)) = ks := by
    unfold keys
    rw [List.map_map]
    have : ∀ p ∈ ks, (((fun x => (x, kd ks x)) ∘ fun x : Str × Str => x.1) p) = p := fun p hp => by
      show (p.1, kd ks p.1) = p
      have h1 : lk ks p.1 = some p.2 := lk_of_mem wf.nd hp
      have h2 : p.1 ≠ e0 := fun z => wf.ne (by rw [← z]; exact List.mem_map.mpr ⟨p, hp, rfl⟩)
      unfold kd kindIn
      rw [if_neg h2, h1]
      rfl
    rw [List.map_congr_left this]
    exact List.map_id _
  rw [e]
  exact nd_map wf.nd
theorem r_kinds_of (T : Tx K mg) (c_Procedure_names : CalS P w K mg base 1 (cP K) "names" (S_Procedure_names K)) (c_Procedure_kind : CalS P w K mg base 1 (cP K) "kind" (S_Procedure_kind K)) : FnR P w K mg base CX0 2 (a_kinds_of K) (sp (S_kinds_of K)) := by
  refine fr_of (S := (S_kinds_of K)) (N := N_kinds_of) (f_kinds_of T) sc_kinds_of (fun vs H Q h => by first | (obtain ⟨rfl, _⟩ := h; rfl) | (obtain ⟨_, rfl, _⟩ := h; rfl) | (obtain ⟨_, _, rfl, _⟩ := h; rfl) | (obtain ⟨_, _, _, rfl, _⟩ := h; rfl) | (obtain ⟨_, _, _, _, rfl, _⟩ := h; rfl) | (obtain ⟨_, _, _, _, _, rfl, _⟩ := h; rfl) | (obtain ⟨_, _, _, _, _, _, rfl, _⟩ := h; rfl) | (obtain ⟨_, _, _, _, _, _, _, rfl, _⟩ := h; rfl) | (obtain ⟨_, _, _, _, _, _, _, _, rfl, _⟩ := h; rfl) | (obtain ⟨_, _, _, _, _, _, _, _, _, rfl, _⟩ := h; rfl) | (obtain ⟨_, _, _, _, _, _, _, _, _, _, rfl, _⟩ := h; rfl) | (obtain ⟨_, _, _, _, _, _, _, _, _, _, _, rfl, _⟩ := h; rfl) | (obtain ⟨_, _, _, _, _, _, _, _, _, _, _, _, rfl, _⟩ := h; rfl) | (obtain ⟨_, _, _, _, _, _, _, _, _, _, _, _, _, rfl, _⟩ := h; rfl) | (obtain ⟨_, _, _, _, _, _, _, _, _, _, _, _, _, _, rfl, _⟩ := h; rfl) | (obtain ⟨_, _, _, _, _, _, _, _, _, _, _, _, _, _, _, rfl, _⟩ := h; rfl) | (obtain ⟨_, _, _, _, _, _, _, _, _, _, _, _, _, _, _, _, rfl, _⟩ := h; rfl)) (fun _ _ _ _ _ _ us hl => match us, hl with | [_], _ => rfl) (fun cdv A outer s H vs Q E hr h => ?_)
  obtain ⟨v, p, rfl, hp, wf, q⟩ := h
  obtain ⟨a, rfl, dx, k, u, r, w1, hs, hk⟩ := id hp
  refine ⟨_, (pss_one (ps_ret (pe_fz (pe_dc (own := [("name", 1)]) (g := gName 1) rfl sc_kinds_of.nd (piList K rfl (pmethS0 c_Procedure_names hr (by decide) (pv 0))) (blkOk_by (own := [("name", 1)]) (N := N_kinds_of) (sc := defScope s_kinds_of) (by decide +kernel)) (fun _ _ _ _ _ => (pg_name (i := 1) sc_kinds_of.nd rfl (.inl rfl))) (fun _ _ _ _ _ => pts_nil) (fun _ _ _ _ _ => (pv 1)) (fun _ _ _ _ _ => (pmethS c_Procedure_kind hr (by decide) (pv 0) (pa_cons (pv 1) pa_nil))))))), ?_⟩
  refine ⟨_, rfl, a, dx, _, rfl, hs, _, p, rfl, hp, fun v1 H1 s1 ⟨b, od, xs, e, hb, pb⟩ => ?_⟩
  subst e
  refine ⟨b, rfl, ⟨xs, .inl (.inr ⟨_, hb⟩)⟩, fun D hD => ?_⟩
  refine dc_m (wd_list pb) none rStr (fun x => x) (fun x => kd p.kinds x) hD (go_refl _) (fun H' g => .inl (.inr ⟨_, g _ _ hb⟩)) (sz1000 (by unfold keys; rw [List.length_map]; have := wf.len; omega)) (fun x v H2 H' L hx go y fin => ?_) fun H2 kvs2 go hD2 dp2 => ?_
  · obtain ⟨rfl, rfl⟩ := y
    have s2 := s1.trans go
    exact ⟨rfl, yes ⟨_, rfl, _, rfl, a, dx, _, rfl, slt_keep (kp_of s2) hs, _, rfl, _, p, x, rfl, mo (kp_of s2) hp, .inr hx, fin _ _ (go_refl _) rfl⟩⟩
  · refine ⟨D, _, rfl, hD2, trivial, fun od2 => ?_⟩
    rw [kd_map wf] at dp2
    exact q _ _ (s1.trans (Same.mut go hD)) ⟨D, od2, _, rfl, upd_same, dp2.mono (kp_mut hD2 (fun z => z))⟩
end Fp

/-! ## FpProcB -/
set_option Elab.async false
set_option linter.all false
set_option maxRecDepth 100000
set_option maxHeartbeats 2000000
namespace Fp
open PySem PySem.Spec PyProof.Rows L2
variable {P : Program} {w : World} {K : PySem.W.Frag} {mg : Str → Option Value} {base : Heap}
theorem keys_self {α : Type} (f : Str → α) (l : List Str) : keys (l.map fun a => (a, f a)) = l := by
  unfold keys
  rw [List.map_map]
  exact List.map_id _
/-! ### Form.begin -/
/-- slots: 0 procedure*, 1 table, 2 name -/
abbrev N_Form_begin : List Str := [Str.ofString "procedure", Str.ofString "table", Str.ofString "name"]
theorem sc_Form_begin : FnScope N_Form_begin [Str.ofString "procedure"] (defScope s_Form_begin) := ⟨rfl, rfl, rfl, by decide +kernel, rfl, by decide +kernel, by decide +kernel⟩
def S_Form_begin (K : PySem.W.Frag) : Sq := fun vs H Q => ∃ (v : V) (p : Pr), vs = [v] ∧ rPr K H v p ∧ WfK p.kinds ∧ ∀ v' H', Same H H' → rFm K H' v' (begin_ p) → Q v' H'
theorem inV_at {H : Hp} {v : V} {ps : List Str} (h : rTup rStr H v ps) (x : Str) : ∃ a xs, v = .ref a ∧ H a = some (.tup xs) ∧ xs.all flatV = true ∧ inV (.str x) xs = decide (x ∈ ps) := by
  obtain ⟨a, xs, rfl, ha, pa⟩ := h
  refine ⟨a, xs, rfl, ha, ?_, ?_⟩
  · rw [strs_of pa, List.all_map]
    exact List.all_eq_true.mpr fun _ _ => rfl
  · rw [strs_of pa, inV_strs]
theorem r_Form_begin (T : Tx K mg) (c_Procedure_names : CalS P w K mg base 1 (cP K) "names" (S_Procedure_names K)) (c_Procedure_params : CalP P w K mg base 1 (cP K) "params" (S_Procedure_params K)) (c_Procedure_results : CalP P w K mg base 1 (cP K) "results" (S_Procedure_results K))
    (c_kinds_of : Cal P w K mg base 2 "kinds_of" (S_kinds_of K)) (c_Form : Mak P w K mg base 1 "Form" (cF K) (S_Form_init K)) : FnR P w K mg base CX0 3 (a_Form_begin K) (sp (S_Form_begin K)) := by
  refine fr_of (S := (S_Form_begin K)) (N := N_Form_begin) (f_Form_begin T) sc_Form_begin (fun vs H Q h => by first | (obtain ⟨rfl, _⟩ := h; rfl) | (obtain ⟨_, rfl, _⟩ := h; rfl) | (obtain ⟨_, _, rfl, _⟩ := h; rfl) | (obtain ⟨_, _, _, rfl, _⟩ := h; rfl) | (obtain ⟨_, _, _, _, rfl, _⟩ := h; rfl) | (obtain ⟨_, _, _, _, _, rfl, _⟩ := h; rfl) | (obtain ⟨_, _, _, _, _, _, rfl, _⟩ := h; rfl) | (obtain ⟨_, _, _, _, _, _, _, rfl, _⟩ := h; rfl) | (obtain ⟨_, _, _, _, _, _, _, _, rfl, _⟩ := h; rfl) | (obtain ⟨_, _, _, _, _, _, _, _, _, rfl, _⟩ := h; rfl) | (obtain ⟨_, _, _, _, _, _, _, _, _, _, rfl, _⟩ := h; rfl) | (obtain ⟨_, _, _, _, _, _, _, _, _, _, _, rfl, _⟩ := h; rfl) | (obtain ⟨_, _, _, _, _, _, _, _, _, _, _, _, rfl, _⟩ := h; rfl) | (obtain ⟨_, _, _, _, _, _, _, _, _, _, _, _, _, rfl, _⟩ := h; rfl) | (obtain ⟨_, _, _, _, _, _, _, _, _, _, _, _, _, _, rfl, _⟩ := h; rfl) | (obtain ⟨_, _, _, _, _, _, _, _, _, _, _, _, _, _, _, rfl, _⟩ := h; rfl) | (obtain ⟨_, _, _, _, _, _, _, _, _, _, _, _, _, _, _, _, rfl, _⟩ := h; rfl)) (fun _ _ _ _ _ _ us hl => match us, hl with | [_], _ => rfl) (fun cdv A outer s H vs Q E hr h => ?_)
  obtain ⟨v, p, rfl, hp, wf, q⟩ := h
  obtain ⟨a, rfl, dx, k, u, r, w1, hs, hk, hu, hr', hw⟩ := id hp
  refine ⟨_, (pss_cons (ps_setDc (i := 1) (own := [("name", 2)]) (g := gName 2) rfl sc_Form_begin.nd rfl rfl (sw_trueD rfl rfl rfl (by decide +kernel)) (piList K rfl (pmethS0 c_Procedure_names hr (by decide) (pv 0))) (blkOk_by (own := [("name", 2)]) (N := N_Form_begin) (sc := defScope s_Form_begin) (by decide +kernel)) (fun _ _ _ _ _ => (pg_name (i := 2) sc_Form_begin.nd rfl (.inl rfl))) (fun _ _ _ _ _ => pts_nil) (fun _ _ _ _ _ => (pv 2)) (fun _ _ _ _ _ => (pe_fz (pe_disp (pps_cons (pe_ifExp (pt_cmpR (inSq K rfl) (pv 2) (pprop c_Procedure_params hr (by decide) (pv 0)) (by rfl)) (pv 2) pe_str) pe_int pps_nil) (by rfl) (by rfl) (fun z => by cases z) (by decide)))))
      (pss_one (ps_ret (pmake c_Form hr (by decide) rfl (pa_cons (pcall c_kinds_of hr (by decide) rfl (pa_cons (pv 0) pa_nil)) (pa_cons (pprop c_Procedure_params hr (by decide) (pv 0)) (pa_cons (pprop c_Procedure_results hr (by decide) (pv 0)) (pa_cons (pe_fz (pv 1)) pa_nil)))))))), ?_⟩
  refine ⟨_, rfl, a, dx, _, rfl, hs, _, p, rfl, hp, fun v1 H1 s1 ⟨b, od, xs, e, hb, pb⟩ => ?_⟩
  subst e
  refine ⟨b, rfl, ⟨xs, .inl (.inr ⟨_, hb⟩)⟩, fun D hD => ?_⟩
  refine dc_m (wd_list pb) none (rDic rInt) (fun x => x) (fun n => [(if n ∈ p.params then n else e0, 0)]) hD (go_refl _) (fun H' g => .inl (.inr ⟨_, g _ _ hb⟩)) (sz1000 (by unfold keys; rw [List.length_map]; have := wf.len; omega)) (fun x v H2 H' L hx go y fin => ?_) fun H2 kvs2 go hD2 dp2 => ?_
  · obtain ⟨rfl, rfl⟩ := y
    have s2 := s1.trans go
    refine ⟨rfl, yes ⟨_, rfl, fun p2 hp2 => ?_⟩⟩
    have s3 : Same H' (upd H' p2 (.dK [])) := same_new hp2
    have s4 := s2.trans s3
    refine ⟨_, rfl, _, rfl, a, dx, _, rfl, slt_keep (kp_of s4) hs, _, p, rfl, mo (kp_of s4) hp, fun v5 hv5 => ?_⟩
    obtain ⟨a5, ys5, rfl, h5, h6, h7⟩ := inV_at hv5 x
    refine ⟨a5, ys5, rfl, .inr (.inl (.inl h5)), rfl, h6, ?_⟩
    rw [if_neg Bool.false_ne_true, h7]
    have go2 : ∀ z : Str, z = (if x ∈ p.params then x else e0) → ∀ od2, DcN D none H1 (rDic rInt) L (V.str x) (V.ref p2) (upd H' p2 (.frz od2 (.dK [(Sum.inr z, V.int 0)]))) := fun z ez od2 => by
      refine fin _ _ (same_new hp2) ⟨p2, od2, _, rfl, upd_same, .cons ⟨?_, rfl⟩ .nil⟩
      rw [ez]
    by_cases e : x ∈ p.params
    · refine ⟨true, bT e, iteT ⟨_, rfl, upd_same, [(Sum.inr x, V.int 0)], rfl, Nat.le_of_ble_eq_true rfl, p2, _, rfl, upd_same, trivial, fun od2 => ?_⟩⟩
      rw [upd_upd, upd_upd]
      exact go2 x (by rw [if_pos e]) od2
    · refine ⟨false, bF e, iteF ⟨upd_same, [(Sum.inr e0, V.int 0)], rfl, Nat.le_of_ble_eq_true rfl, p2, _, rfl, upd_same, trivial, fun od2 => ?_⟩⟩
      rw [upd_upd, upd_upd]
      exact go2 e0 (by rw [if_neg e]) od2
  · have s2 := s1.trans go
    refine ⟨_, rfl, _, p, rfl, mo (kp_of s2) hp, wf, fun v3 H3 s3 hk3 => ?_⟩
    have s4 := s2.trans s3
    refine ⟨_, rfl, a, dx, _, rfl, slt_keep (kp_of s4) hs, _, p, rfl, mo (kp_of s4) hp, fun v4 hv4 => ?_⟩
    refine ⟨_, rfl, a, dx, _, rfl, slt_keep (kp_of s4) hs, _, p, rfl, mo (kp_of s4) hp, fun v5 hv5 => ?_⟩
    refine ⟨_, rfl, D, _, rfl, s3 _ _ hD2, trivial, fun od3 x dx2 hx hdx ne => ?_⟩
    have hDn : H D = none := Same.free s1 hD
    have s5 : Same H (upd H3 D (.frz od3 (.dK kvs2))) := Same.mut s4 hDn
    have k5 : Keep H3 (upd H3 D (.frz od3 (.dK kvs2))) := kp_mut (s3 _ _ hD2) (fun z => z)
    rw [nd_map] at dp2
    · exact form_made (F := begin_ p) hx hdx ne (mo k5 hk3) (mo k5 hv4) (mo k5 hv5) ⟨D, od3, kvs2, rfl, upd_same, dp2.mono ((kp_of s3).trans k5)⟩ fun H6 s6 hf => q _ _ (s5.trans s6) hf
    · rw [keys_self]
      exact wf.nd
/-! ### Form.entered -/
/-- slots: 0 self, 1 statement, 2 procedure*, 3 inside*, 4 kinds, 5 table, 6 name -/
abbrev N_Form_entered : List Str := [Str.ofString "self", Str.ofString "statement", Str.ofString "procedure", Str.ofString "inside", Str.ofString "kinds", Str.ofString "table", Str.ofString "name"]
theorem sc_Form_entered : FnScope N_Form_entered [Str.ofString "self", Str.ofString "statement", Str.ofString "procedure"] (defScope s_Form_entered) := ⟨rfl, rfl, rfl, by decide +kernel, rfl, by decide +kernel, by decide +kernel⟩
def S_Form_entered (K : PySem.W.Frag) : Sq := fun vs H Q => ∃ (v u x : V) (F : Fm) (p : Pr) (f : Str) (as : List Part) (rs : List Str) (S : List Str), vs = [v, u, x] ∧ rFm K H v F ∧ rSm H u (.call f as rs) ∧ rPr K H x p ∧
  WfF S F ∧ WfK p.kinds ∧ (∀ y ∈ as, Nm (keys F.table) y.1) ∧ as.length ≤ 8 ∧ as.length = p.params.length ∧ ∀ v' H', Same H H' → rFm K H' v' (entered_ F as p) → Q v' H'
theorem r_Form_entered (T : Tx K mg) (c_Procedure_names : CalS P w K mg base 1 (cP K) "names" (S_Procedure_names K)) (c_Procedure_params : CalP P w K mg base 1 (cP K) "params" (S_Procedure_params K)) (c_Procedure_results : CalP P w K mg base 1 (cP K) "results" (S_Procedure_results K))
    (c_kinds_of : Cal P w K mg base 2 "kinds_of" (S_kinds_of K)) (c_Form : Mak P w K mg base 1 "Form" (cF K) (S_Form_init K)) (c_Form_handed : CalF P w K mg base 2 (cF K) "handed" (S_Form_handed K)) : FnR P w K mg base CX0 3 (a_Form_entered K) (sp (S_Form_entered K)) := by
  refine fr_of (S := (S_Form_entered K)) (N := N_Form_entered) (f_Form_entered T) sc_Form_entered (fun vs H Q h => by first | (obtain ⟨rfl, _⟩ := h; rfl) | (obtain ⟨_, rfl, _⟩ := h; rfl) | (obtain ⟨_, _, rfl, _⟩ := h; rfl) | (obtain ⟨_, _, _, rfl, _⟩ := h; rfl) | (obtain ⟨_, _, _, _, rfl, _⟩ := h; rfl) | (obtain ⟨_, _, _, _, _, rfl, _⟩ := h; rfl) | (obtain ⟨_, _, _, _, _, _, rfl, _⟩ := h; rfl) | (obtain ⟨_, _, _, _, _, _, _, rfl, _⟩ := h; rfl) | (obtain ⟨_, _, _, _, _, _, _, _, rfl, _⟩ := h; rfl) | (obtain ⟨_, _, _, _, _, _, _, _, _, rfl, _⟩ := h; rfl) | (obtain ⟨_, _, _, _, _, _, _, _, _, _, rfl, _⟩ := h; rfl) | (obtain ⟨_, _, _, _, _, _, _, _, _, _, _, rfl, _⟩ := h; rfl) | (obtain ⟨_, _, _, _, _, _, _, _, _, _, _, _, rfl, _⟩ := h; rfl) | (obtain ⟨_, _, _, _, _, _, _, _, _, _, _, _, _, rfl, _⟩ := h; rfl) | (obtain ⟨_, _, _, _, _, _, _, _, _, _, _, _, _, _, rfl, _⟩ := h; rfl) | (obtain ⟨_, _, _, _, _, _, _, _, _, _, _, _, _, _, _, rfl, _⟩ := h; rfl) | (obtain ⟨_, _, _, _, _, _, _, _, _, _, _, _, _, _, _, _, rfl, _⟩ := h; rfl)) (fun _ _ _ _ _ _ us hl => match us, hl with | [_, _, _], _ => rfl) (fun cdv A outer s H vs Q E hr h => ?_)
  obtain ⟨v, c0, x0, F, p, f, as, rs, S, rfl, hv, hc0, hp, wfF, wf, has, hla, hlp, q⟩ := h
  obtain ⟨fa, rfl, fdx, fk, fp, fr, ft, hfa, _⟩ := id hv
  obtain ⟨a, rfl, dx, k, u, r, w1, hs, hk, hu, hr', hw⟩ := id hp
  refine ⟨_, (pss_cons (ps_asg (pe_tup (pa_cons (pmeth c_Form_handed hr (by decide) (pv 0) (pa_cons (pv 1) (pa_cons (pprop c_Procedure_params hr (by decide) (pv 2)) pa_nil))) (pa_cons (pcall c_kinds_of hr (by decide) rfl (pa_cons (pv 2) pa_nil)) pa_nil))) (pgTup (n := 2) K rfl rfl (pgs_cons (pg_name (i := 3) sc_Form_entered.nd rfl (.inr rfl)) (pgs_cons (pg_name (i := 4) sc_Form_entered.nd rfl (.inl rfl)) pgs_nil))))
      (pss_cons (ps_setDc (i := 5) (own := [("name", 6)]) (g := gName 6) rfl sc_Form_entered.nd rfl rfl (sw_trueD rfl rfl rfl (by decide +kernel)) (piList K rfl (pmethS0 c_Procedure_names hr (by decide) (pv 2))) (blkOk_by (own := [("name", 6)]) (N := N_Form_entered) (sc := defScope s_Form_entered) (by decide +kernel)) (fun _ _ _ _ _ => (pg_name (i := 6) sc_Form_entered.nd rfl (.inl rfl))) (fun _ _ _ _ _ => pts_nil) (fun _ _ _ _ _ => (pv 6)) (fun _ _ _ _ _ => (pe_dget (hu_of hr) (pv 3) (pe_ifExp (pt_cmpR (inSq K rfl) (pv 6) (pprop c_Procedure_params hr (by decide) (pv 2)) (by rfl)) (pv 6) pe_str) (fun _ _ => rfl))))
      (pss_one (ps_ret (pmake c_Form hr (by decide) rfl (pa_cons (pv 4) (pa_cons (pprop c_Procedure_params hr (by decide) (pv 2)) (pa_cons (pprop c_Procedure_results hr (by decide) (pv 2)) (pa_cons (pe_fz (pv 5)) pa_nil))))))))), ?_⟩
  refine ⟨_, rfl, fa, fdx, _, rfl, hfa, ff_no (by decide +kernel), _, rfl, _, rfl, a, dx, _, rfl, hs, _, p, rfl, hp, fun v1 hv1 => ?_⟩
  refine ⟨_, _, _, F, f, as, rs, p.params, S, rfl, hv, hc0, hv1, wfF, has, by omega, fun vh H1 s1 hh => ?_⟩
  refine ⟨_, rfl, _, p, rfl, mo (kp_of s1) hp, wf, fun v3 H3 s3 hk3 => ⟨ln2, fun t ht => ?_⟩⟩
  have s4 : Same H3 (upd H3 t (.tup [vh, v3])) := same_new ht
  have sA := s1.trans (s3.trans s4)
  refine ⟨t, _, rfl, .inl (.inl upd_same), rfl, _, _, rfl, _, _, rfl, rfl, ?_⟩
  refine ⟨_, rfl, a, dx, _, rfl, slt_keep (kp_of sA) hs, _, p, rfl, mo (kp_of sA) hp, fun v6 H6 s6 ⟨b, od, xs, e, hb, pb⟩ => ?_⟩
  subst e
  have s7 := sA.trans s6
  obtain ⟨ih, iod, ikvs, rfl, hih, idp⟩ := mo (kp_of (s3.trans (s4.trans s6))) hh
  refine ⟨b, rfl, ⟨xs, .inl (.inr ⟨_, hb⟩)⟩, fun D hD => ?_⟩
  refine dc_m (wd_list pb) none (rDic rInt) (fun x => x) (fun n => (lk (handed F.table as p.params) (if n ∈ p.params then n else e0)).getD []) hD (go_refl _) (fun H' g => .inl (.inr ⟨_, g _ _ hb⟩)) (sz1000 (by unfold keys; rw [List.length_map]; have := wf.len; omega)) (fun x v H2 H' L hx go y fin => ?_) fun H2 kvs2 go hD2 dp2 => ?_
  · obtain ⟨rfl, rfl⟩ := y
    have s8 := s7.trans go
    refine ⟨rfl, yes ⟨_, rfl, _, rfl, ?_⟩⟩
    refine ⟨_, rfl, _, rfl, a, dx, _, rfl, slt_keep (kp_of s8) hs, _, p, rfl, mo (kp_of s8) hp, fun v5 hv5 => ?_⟩
    obtain ⟨a5, ys5, rfl, h5, h6, h7⟩ := inV_at hv5 x
    refine ⟨a5, ys5, rfl, .inr (.inl (.inl h5)), rfl, h6, ?_⟩
    rw [if_neg Bool.false_ne_true, h7]
    have hz : (if x ∈ p.params then x else e0) = e0 ∨ (if x ∈ p.params then x else e0) ∈ p.params := by
      split
      · rename_i h; exact .inr h
      · exact .inl rfl
    obtain ⟨row, er, _⟩ := handed_row wfF has (z := if x ∈ p.params then x else e0) hlp hz
    obtain ⟨v9, ev9, hv9⟩ := idp.some er
    have hrep : rDic rInt H' v9 ((lk (handed F.table as p.params) (if x ∈ p.params then x else e0)).getD []) := by
      rw [er]
      exact mo (kp_of go) hv9
    by_cases e : x ∈ p.params
    · rw [if_pos e] at ev9
      exact ⟨true, bT e, iteT ⟨_, rfl, ih, v9, rfl, dgR (.inr ⟨iod, go _ _ hih⟩) ev9, fin _ _ (go_refl _) hrep⟩⟩
    · rw [if_neg e] at ev9
      exact ⟨false, bF e, iteF ⟨ih, v9, rfl, dgR (.inr ⟨iod, go _ _ hih⟩) ev9, fin _ _ (go_refl _) hrep⟩⟩
  · have s8 := s7.trans go
    have kk := mo (kp_of (s4.trans (s6.trans go))) hk3
    refine ⟨_, rfl, ?_⟩
    refine ⟨_, rfl, a, dx, _, rfl, slt_keep (kp_of s8) hs, _, p, rfl, mo (kp_of s8) hp, fun v4 hv4 => ?_⟩
    refine ⟨_, rfl, a, dx, _, rfl, slt_keep (kp_of s8) hs, _, p, rfl, mo (kp_of s8) hp, fun v5 hv5 => ?_⟩
    refine ⟨_, rfl, D, _, rfl, hD2, trivial, fun od3 x dx2 hx hdx ne => ?_⟩
    have hDn : H D = none := Same.free s7 hD
    have s5 : Same H (upd H2 D (.frz od3 (.dK kvs2))) := Same.mut s8 hDn
    have k5 : Keep H2 (upd H2 D (.frz od3 (.dK kvs2))) := kp_mut hD2 (fun z => z)
    rw [nd_map] at dp2
    · exact form_made (F := entered_ F as p) hx hdx ne (mo k5 kk) (mo k5 hv4) (mo k5 hv5) ⟨D, od3, kvs2, rfl, upd_same, dp2.mono k5⟩ fun H6 s6 hf => q _ _ (s5.trans s6) hf
    · rw [keys_self]
      exact wf.nd
end Fp

/-! ## FpProcC -/
set_option Elab.async false
set_option linter.all false
set_option maxRecDepth 100000
set_option maxHeartbeats 2000000
namespace Fp
open PySem PySem.Spec PyProof.Rows L2
variable {P : Program} {w : World} {K : PySem.W.Frag} {mg : Str → Option Value} {base : Heap}
/-! ### when a Procedure is in order -/
def Fit (a b : Str) : Prop := a = "plain" ∨ a = b
def hiK (hi : Bool) : Str := if hi = true then "high" else "low"
def KindOk (ks : List (Str × Str)) : Sm → Prop
  | .skip => True
  | .sets xs => ∀ x ∈ xs, Fit (kd ks x.2.1) (kindIn ks x.1)
  | .mx hi x ps => kindIn ks x = hiK hi ∧ ∀ p ∈ ps, Fit (kd ks p.1) (kindIn ks x)
  | .call _ _ _ => True
def IsKd (z : Str) : Prop := z ∈ (["plain", "high", "low"] : List Str)
structure OkPr (p : Pr) : Prop where
  wk : WfK p.kinds
  nm : ∀ x ∈ keys p.kinds, IsNm x
  kk : ∀ x ∈ p.kinds, IsKd x.2
  ps : p.params.Nodup ∧ p.params.length ≤ 7 ∧ ∀ x ∈ p.params, x ∈ keys p.kinds
  rs : p.results.Nodup ∧ p.results.length ≤ 8 ∧ ∀ x ∈ p.results, x ∈ keys p.kinds
  sz : 1 ≤ p.size
  wl : p.ways.length ≤ 60
  ws : ∀ x ∈ p.ways, (0 ≤ x.a ∧ x.a < p.size) ∧ (0 ≤ x.b ∧ x.b < p.size) ∧ SynSm x.s ∧ SmIn (keys p.kinds) x.s ∧ KindOk p.kinds x.s ∧ (setsOf x.s).length + (partsOf x.s).length < 64
/-! ### is_way, are_kinds, targets -/
/-- slots: 0 thing, 1 place -/
abbrev N_is_way : List Str := [Str.ofString "thing", Str.ofString "place"]
theorem sc_is_way : FnScope N_is_way [Str.ofString "thing"] (defScope s_is_way) := ⟨rfl, rfl, rfl, by decide +kernel, rfl, by decide +kernel, by decide +kernel⟩
def S_is_way : Sq := fun vs H Q => ∃ (v : V) (x : Wy), vs = [v] ∧ rWy H v x ∧ 0 ≤ x.a ∧ 0 ≤ x.b ∧ SynSm x.s ∧ ∀ H', Same H H' → Q (.bl true) H'
theorem r_is_way (T : Tx K mg) (c_is_statement : Cal P w K mg base 6 "is_statement" S_is_statement) (c_is_integer : Cal P w K mg base 1 "is_integer" S_is_integer) : FnR P w K mg base CX0 7 (a_is_way K) (sp S_is_way) := by
  refine fr_of (S := S_is_way) (N := N_is_way) (f_is_way T) sc_is_way (fun vs H Q h => by first | (obtain ⟨rfl, _⟩ := h; rfl) | (obtain ⟨_, rfl, _⟩ := h; rfl) | (obtain ⟨_, _, rfl, _⟩ := h; rfl) | (obtain ⟨_, _, _, rfl, _⟩ := h; rfl) | (obtain ⟨_, _, _, _, rfl, _⟩ := h; rfl) | (obtain ⟨_, _, _, _, _, rfl, _⟩ := h; rfl) | (obtain ⟨_, _, _, _, _, _, rfl, _⟩ := h; rfl) | (obtain ⟨_, _, _, _, _, _, _, rfl, _⟩ := h; rfl) | (obtain ⟨_, _, _, _, _, _, _, _, rfl, _⟩ := h; rfl) | (obtain ⟨_, _, _, _, _, _, _, _, _, rfl, _⟩ := h; rfl) | (obtain ⟨_, _, _, _, _, _, _, _, _, _, rfl, _⟩ := h; rfl) | (obtain ⟨_, _, _, _, _, _, _, _, _, _, _, rfl, _⟩ := h; rfl) | (obtain ⟨_, _, _, _, _, _, _, _, _, _, _, _, rfl, _⟩ := h; rfl) | (obtain ⟨_, _, _, _, _, _, _, _, _, _, _, _, _, rfl, _⟩ := h; rfl) | (obtain ⟨_, _, _, _, _, _, _, _, _, _, _, _, _, _, rfl, _⟩ := h; rfl) | (obtain ⟨_, _, _, _, _, _, _, _, _, _, _, _, _, _, _, rfl, _⟩ := h; rfl) | (obtain ⟨_, _, _, _, _, _, _, _, _, _, _, _, _, _, _, _, rfl, _⟩ := h; rfl)) (fun _ _ _ _ _ _ us hl => match us, hl with | [_], _ => rfl) (fun cdv A outer s H vs Q E hr h => ?_)
  obtain ⟨v, x, rfl, ⟨a, u, rfl, ha, hu⟩, h0, h1, hs, q⟩ := h
  refine ⟨_, (pss_cons (ps_if (PW.pt (pw_or (pt_not (pt_val (pe_callB (cIsiT K rfl) rfl (n_isinstance T) (by decide +kernel) (pa_cons (pv 0) (pa_cons (pe_tup (pa_cons (pe_bltn (v := .ty "list") rfl (n_list T) (by decide +kernel) rfl) (pa_cons (pe_bltn (v := .ty "tuple") rfl (n_tuple T) (by decide +kernel) rfl) pa_nil))) pa_nil))))) (pw_or (pt_cmpR op_ne (pe_callB (cLen K rfl) rfl (n_len T) (by decide +kernel) (pa_cons (pv 0) pa_nil)) pe_int (nomark _)) (pw_or1 (pt_not (pt_val (pcall c_is_statement hr (by decide) rfl (pa_cons (pe_ix (ixT K rfl) (pv 0) pe_int (fun _ _ => rfl)) pa_nil)))))))) (pss_one (ps_ret pe_bl)) pss_nil)
      (pss_one (ps_ret (pe_callB (cAll K rfl rfl) rfl (n_all T) (by decide +kernel) (pa_cons (pe_lc (own := [("place", 1)]) (g := gName 1) rfl sc_is_way.nd (piTup K rfl (pe_slice (slT K rfl) (pv 0) po_none (po_some pe_int))) (blkOk_by (own := [("place", 1)]) (N := N_is_way) (sc := defScope s_is_way) (by decide +kernel)) (fun _ _ _ _ _ => (pg_name (i := 1) sc_is_way.nd rfl (.inl rfl))) (fun _ _ _ _ _ => pts_nil) (fun _ _ _ _ _ => (pe_and (pcall c_is_integer hr (by decide) rfl (pa_cons (pv 1) pa_nil)) (pe_one (pe_cmpR op_ge (pv 1) pe_int (nomark _)))))) pa_nil))))), ?_⟩
  refine ⟨_, rfl, ln2, fun t ht => ?_⟩
  have s1 : Same H (upd H t (.tup [V.ty "list", V.ty "tuple"])) := same_new ht
  obtain ⟨ty, g1, g2⟩ := lt_any (K := K) (xs := [.int x.a, .int x.b, u]) ⟨_, .inr (.inr rfl), s1 _ _ ha⟩
  refine ⟨_, _, _, _, _, _, rfl, upd_same, lt_cls, g1, g2, true, rfl, iteF ?_⟩
  refine ⟨_, rfl, _, _, rfl, .inr ⟨_, .inl (.inl (s1 _ _ ha)), rfl⟩, rfl, false, nbF rfl, iteF ?_⟩
  refine ⟨_, rfl, _, _, _, _, rfl, rfl, .inl (.inl (s1 _ _ ha)), at2, _, x.s, rfl, mo (kp_of s1) hu, hs, fun H2 s2 => ⟨true, rfl, iteF ?_⟩⟩
  have sA := s1.trans s2
  refine ⟨_, rfl, _, rfl, _, _, rfl, .inl (.inl (sA _ _ ha)), fun z => absurd z.2 (by show ¬ HT.sIx 3 3 (some 2) = 3; decide), fun _ c hc => ?_⟩
  have s3 : Same H2 (upd H2 c (.tup (cutV [.int x.a, .int x.b, u] none (some 2)))) := same_new hc
  have ec : cutV [V.int x.a, .int x.b, u] none (some 2) = [V.int x.a, .int x.b] := rfl
  refine ⟨c, rfl, ⟨_, .inl (.inl upd_same)⟩, fun D hD => ?_⟩
  have pw : Paired (rInt H) [V.int x.a, .int x.b] [x.a, x.b] := of_ints [x.a, x.b]
  refine lc_m (wd_tup pw) none rBl (fun _ => true) hD (go_refl _) (fun H' g => .inl (.inl (g _ _ (by rw [upd_same, ec])))) (sz1000 (by show 2 ≤ 1000; decide)) (fun i v H1 H' L hi go y fin => ?_) fun H3 acc go hD2 pa => ?_
  · obtain ⟨rfl, rfl⟩ := y
    have hi0 : 0 ≤ i := by
      rcases List.mem_cons.mp hi with e | hi
      · rw [e]; exact h0
      · rw [List.mem_singleton.mp hi]; exact h1
    refine ⟨rfl, yes ⟨_, rfl, i, rfl, true, rfl, iteT ⟨_, rfl, _, _, rfl, rfl, fin _ _ (go_refl _) (bT hi0)⟩⟩⟩
  · refine ⟨D, _, rfl, alls hD2 pa, ?_⟩
    rw [all_true]
    exact q _ (sA.trans (Same.trans s3 go))
/-- slots: 0 thing*, 1 one -/
abbrev N_are_kinds : List Str := [Str.ofString "thing", Str.ofString "one"]
theorem sc_are_kinds : FnScope N_are_kinds [Str.ofString "thing"] (defScope s_are_kinds) := ⟨rfl, rfl, rfl, by decide +kernel, rfl, by decide +kernel, by decide +kernel⟩
def S_are_kinds : Sq := fun vs H Q => ∃ (v : V) (ks : List (Str × Str)), vs = [v] ∧ rDic rStr H v ks ∧ WfK ks ∧ (∀ x ∈ keys ks, IsNm x) ∧ (∀ x ∈ ks, IsKd x.2) ∧ ∀ H', Same H H' → Q (.bl true) H'
theorem r_are_kinds (T : Tx K mg) (c_is_name : Cal P w K mg base 1 "is_name" S_is_name) (c_is_kind : Cal P w K mg base 1 "is_kind" S_is_kind) : FnR P w K mg base CX0 2 (a_are_kinds K) (sp S_are_kinds) := by
  refine fr_of (S := S_are_kinds) (N := N_are_kinds) (f_are_kinds T) sc_are_kinds (fun vs H Q h => by first | (obtain ⟨rfl, _⟩ := h; rfl) | (obtain ⟨_, rfl, _⟩ := h; rfl) | (obtain ⟨_, _, rfl, _⟩ := h; rfl) | (obtain ⟨_, _, _, rfl, _⟩ := h; rfl) | (obtain ⟨_, _, _, _, rfl, _⟩ := h; rfl) | (obtain ⟨_, _, _, _, _, rfl, _⟩ := h; rfl) | (obtain ⟨_, _, _, _, _, _, rfl, _⟩ := h; rfl) | (obtain ⟨_, _, _, _, _, _, _, rfl, _⟩ := h; rfl) | (obtain ⟨_, _, _, _, _, _, _, _, rfl, _⟩ := h; rfl) | (obtain ⟨_, _, _, _, _, _, _, _, _, rfl, _⟩ := h; rfl) | (obtain ⟨_, _, _, _, _, _, _, _, _, _, rfl, _⟩ := h; rfl) | (obtain ⟨_, _, _, _, _, _, _, _, _, _, _, rfl, _⟩ := h; rfl) | (obtain ⟨_, _, _, _, _, _, _, _, _, _, _, _, rfl, _⟩ := h; rfl) | (obtain ⟨_, _, _, _, _, _, _, _, _, _, _, _, _, rfl, _⟩ := h; rfl) | (obtain ⟨_, _, _, _, _, _, _, _, _, _, _, _, _, _, rfl, _⟩ := h; rfl) | (obtain ⟨_, _, _, _, _, _, _, _, _, _, _, _, _, _, _, rfl, _⟩ := h; rfl) | (obtain ⟨_, _, _, _, _, _, _, _, _, _, _, _, _, _, _, _, rfl, _⟩ := h; rfl)) (fun _ _ _ _ _ _ us hl => match us, hl with | [_], _ => rfl) (fun cdv A outer s H vs Q E hr h => ?_)
  obtain ⟨v, ks, rfl, ⟨a, od, kvs, rfl, ha, dp⟩, wf, hn, hk, q⟩ := h
  refine ⟨_, (pss_one (ps_ret (pe_and (pe_callB (cIsi K rfl) rfl (n_isinstance T) (by decide +kernel) (pa_cons (pv 0) (pa_cons (pe_bltn (v := .ty "dict") rfl (n_dict T) (by decide +kernel) rfl) pa_nil))) (pe_one (pe_callB (cAll K rfl rfl) rfl (n_all T) (by decide +kernel) (pa_cons (pe_lc (own := [("one", 1)]) (g := gName 1) rfl sc_are_kinds.nd (pi_keys (pv 0)) (blkOk_by (own := [("one", 1)]) (N := N_are_kinds) (sc := defScope s_are_kinds) (by decide +kernel)) (fun _ _ _ _ _ => (pg_name (i := 1) sc_are_kinds.nd rfl (.inl rfl))) (fun _ _ _ _ _ => pts_nil) (fun _ _ _ _ _ => (pe_and (pcall c_is_name hr (by decide) rfl (pa_cons (pv 1) pa_nil)) (pe_one (pcall c_is_kind hr (by decide) rfl (pa_cons (pe_dget (hu_of hr) (pv 0) (pv 1) (fun _ _ => rfl)) pa_nil)))))) pa_nil)))))), ?_⟩
  refine ⟨_, rfl, _, _, _, _, _, rfl, .ty _, ty_dic (.inr ⟨od, ha⟩), kt_dd, true, rfl, iteT ?_⟩
  refine ⟨_, rfl, a, od, rfl, .inl ⟨kvs, ha, fun D hD => ?_⟩⟩
  refine lc_m (wd_keys dp) none rBl (fun _ => true) hD (go_refl _) (fun H' g => g _ _ ha) (sz1000 (by have := wf.len; omega)) (fun p v H1 H' L hp go y fin => ?_) fun H3 acc go hD2 pa => ?_
  · obtain ⟨rfl, rfl⟩ := y
    have hm : p.1 ∈ keys ks := List.mem_map.mpr ⟨p, hp, rfl⟩
    obtain ⟨v2, ev, rfl⟩ := dp.some (lk_of_mem wf.nd (k := p.1) (v := p.2) hp)
    refine ⟨rfl, yes ⟨_, rfl, p.1, rfl, hn _ hm, fun H2 s2 => ⟨true, rfl, iteT ⟨_, rfl, _, rfl, a, _, rfl, dgR (.inr ⟨od, s2 _ _ (go _ _ ha)⟩) ev, p.2, rfl, hk p hp, fin _ _ s2 rfl⟩⟩⟩⟩
  · refine ⟨D, _, rfl, alls hD2 pa, ?_⟩
    rw [all_true]
    exact q _ go
def targetsOf : Sm → List (Str × Str)
  | .sets xs => xs.map fun x => (x.1, x.2.1)
  | .mx _ x ps => ps.map fun p => (x, p.1)
  | _ => []
/-- slots: 0 statement*, 1 x, 2 y, 3 c -/
abbrev N_targets : List Str := [Str.ofString "statement", Str.ofString "x", Str.ofString "y", Str.ofString "c"]
theorem sc_targets : FnScope N_targets [Str.ofString "statement"] (defScope s_targets) := ⟨rfl, rfl, rfl, by decide +kernel, rfl, by decide +kernel, by decide +kernel⟩
def S_targets : Sq := fun vs H Q => ∃ (v : V) (s : Sm), vs = [v] ∧ rSm H v s ∧ SynSm s ∧ ∀ v' H', Same H H' → rLst (rPair rStr rStr) H' v' (targetsOf s) → Q v' H'
theorem r_targets (T : Tx K mg) : FnR P w K mg base CX0 1 (a_targets K) (sp S_targets) := by
  refine fr_of (S := S_targets) (N := N_targets) (f_targets T) sc_targets (fun vs H Q h => by first | (obtain ⟨rfl, _⟩ := h; rfl) | (obtain ⟨_, rfl, _⟩ := h; rfl) | (obtain ⟨_, _, rfl, _⟩ := h; rfl) | (obtain ⟨_, _, _, rfl, _⟩ := h; rfl) | (obtain ⟨_, _, _, _, rfl, _⟩ := h; rfl) | (obtain ⟨_, _, _, _, _, rfl, _⟩ := h; rfl) | (obtain ⟨_, _, _, _, _, _, rfl, _⟩ := h; rfl) | (obtain ⟨_, _, _, _, _, _, _, rfl, _⟩ := h; rfl) | (obtain ⟨_, _, _, _, _, _, _, _, rfl, _⟩ := h; rfl) | (obtain ⟨_, _, _, _, _, _, _, _, _, rfl, _⟩ := h; rfl) | (obtain ⟨_, _, _, _, _, _, _, _, _, _, rfl, _⟩ := h; rfl) | (obtain ⟨_, _, _, _, _, _, _, _, _, _, _, rfl, _⟩ := h; rfl) | (obtain ⟨_, _, _, _, _, _, _, _, _, _, _, _, rfl, _⟩ := h; rfl) | (obtain ⟨_, _, _, _, _, _, _, _, _, _, _, _, _, rfl, _⟩ := h; rfl) | (obtain ⟨_, _, _, _, _, _, _, _, _, _, _, _, _, _, rfl, _⟩ := h; rfl) | (obtain ⟨_, _, _, _, _, _, _, _, _, _, _, _, _, _, _, rfl, _⟩ := h; rfl) | (obtain ⟨_, _, _, _, _, _, _, _, _, _, _, _, _, _, _, _, rfl, _⟩ := h; rfl)) (fun _ _ _ _ _ _ us hl => match us, hl with | [_], _ => rfl) (fun cdv A outer s H vs Q E hr h => ?_)
  obtain ⟨v, s, rfl, hv, hs, q⟩ := h
  refine ⟨_, (pss_cons (ps_if (pt_cmpR op_eq (pe_ix (ixT K rfl) (pv 0) pe_int (fun _ _ => rfl)) pe_str (nomark _)) (pss_one (ps_ret (pe_fz (pe_lc (own := [("x", 1), ("y", 2), ("c", 3)]) rfl sc_targets.nd (piTup K rfl (pe_ix (ixT K rfl) (pv 0) pe_int (fun _ _ => rfl))) (blkOk_by (own := [("x", 1), ("y", 2), ("c", 3)]) (N := N_targets) (sc := defScope s_targets) (by decide +kernel)) (fun _ _ _ _ _ => (pgTup (n := 3) K rfl rfl (pgs_cons (pg_name (i := 1) sc_targets.nd rfl (.inl rfl)) (pgs_cons (pg_name (i := 2) sc_targets.nd rfl (.inl rfl)) (pgs_cons (pg_name (i := 3) sc_targets.nd rfl (.inl rfl)) pgs_nil))))) (fun _ _ _ _ _ => pts_nil) (fun _ _ _ _ _ => (pe_tup (pa_cons (pv 1) (pa_cons (pv 2) pa_nil)))))))) pss_nil)
      (pss_cons (ps_if (pt_cmpR (inSq K rfl) (pe_ix (ixT K rfl) (pv 0) pe_int (fun _ _ => rfl)) (pe_tup (pa_cons pe_str (pa_cons pe_str pa_nil))) (by rfl)) (pss_one (ps_ret (pe_fz (pe_lc (own := [("y", 2), ("c", 3)]) rfl sc_targets.nd (piTup K rfl (pe_ix (ixT K rfl) (pv 0) pe_int (fun _ _ => rfl))) (blkOk_by (own := [("y", 2), ("c", 3)]) (N := N_targets) (sc := defScope s_targets) (by decide +kernel)) (fun _ _ _ _ _ => (pgTup (n := 2) K rfl rfl (pgs_cons (pg_name (i := 2) sc_targets.nd rfl (.inl rfl)) (pgs_cons (pg_name (i := 3) sc_targets.nd rfl (.inl rfl)) pgs_nil)))) (fun _ _ _ _ _ => pts_nil) (fun _ _ _ _ _ => (pe_tup (pa_cons (pe_ix (ixT K rfl) (pv 0) pe_int (fun _ _ => rfl)) (pa_cons (pv 2) pa_nil)))))))) pss_nil)
      (pss_one (ps_ret (pe_fz (pe_lst pa_nil)))))), ?_⟩
  obtain ⟨a, rest, rfl, ha⟩ := hv.head
  have nil : targetsOf s = [] → ∀ (H1 : Hp) (D : Addr), Same H H1 → H1 D = none → tFz (fun _ _ Q => Q (.ref D) (upd H1 D (.lst []))) [] H1 Q := by
    intro e H1 D g hD
    refine ⟨D, _, rfl, upd_same, trivial, fun od => ?_⟩
    rw [upd_upd]
    exact q _ _ (g.trans (same_new hD)) ⟨D, od, _, rfl, upd_same, by rw [e]; exact .nil⟩
  refine ⟨_, rfl, _, _, _, _, rfl, rfl, .inl (.inl ha), at0, rfl, ?_⟩
  cases s with
  | skip =>
    refine ⟨false, sF (show ("skip" : Str) ≠ "set" from by decide +kernel), iteF ?_⟩
    refine ⟨_, rfl, _, _, _, _, rfl, rfl, .inl (.inl ha), at0, ln2, fun t ht => ?_⟩
    have s1 : Same H (upd H t (.tup [V.str "most", V.str "least"])) := same_new ht
    refine ⟨t, _, rfl, .inr (.inl (.inl upd_same)), rfl, rfl, false, ?_, iteF ⟨Nat.zero_le _, fun l hl => nil rfl _ l s1 hl⟩⟩
    have e := inV_strs (wordOf .skip) ["most", "least"]
    have hw : ¬ wordOf .skip ∈ (["most", "least"] : List Str) := show ¬ ("skip" : Str) ∈ (["most", "least"] : List Str) from by decide +kernel
    rw [decide_eq_false hw] at e
    rw [if_neg Bool.false_ne_true]
    exact congrArg V.bl e
  | sets xs =>
    obtain ⟨a', y, e, h, hy⟩ := hv
    cases e
    refine ⟨true, sT rfl, iteT ?_⟩
    obtain ⟨b, ys, rfl, hb, pb⟩ := hy
    refine ⟨_, rfl, _, _, _, _, rfl, rfl, .inl (.inl h), at1, b, rfl, ⟨ys, .inl (.inl hb)⟩, fun D hD => ?_⟩
    refine lc_m (wd_tup pb) none (rPair rStr rStr) (fun x => (x.1, x.2.1)) hD (go_refl _) (fun H' g => .inl (.inl (g _ _ hb))) (sz1000 (by have := hs.1; omega)) (fun p v H1 H' L hp go y fin => ?_) fun H1 acc go hD pc => ?_
    · obtain ⟨rfl, r⟩ := y
      obtain ⟨c, x1, x2, x3, rfl, hc, rfl, rfl, rfl⟩ := mo (kp_of go) r
      refine ⟨_, _, rfl, .inl (.inl hc), rfl, _, _, rfl, _, _, rfl, _, _, rfl, rfl, rfl, yes ⟨_, rfl, _, rfl, ln2, fun t ht => ?_⟩⟩
      exact fin _ _ (same_new ht) ⟨t, _, _, rfl, upd_same, rfl, rfl⟩
    · refine ⟨D, _, rfl, hD, trivial, fun od => ?_⟩
      exact q _ _ (Same.mut go (by assumption)) ⟨D, od, _, rfl, upd_same, mos (kp_mut hD (fun z => z)) pc⟩
  | mx hi x ps =>
    obtain ⟨a', y, e, h, hy⟩ := hv
    cases e
    obtain ⟨hx, hne, hl, hp⟩ := hs
    refine ⟨false, sF (wo_mt hi x ps), iteF ?_⟩
    refine ⟨_, rfl, _, _, _, _, rfl, rfl, .inl (.inl ha), at0, ln2, fun t ht => ?_⟩
    have s1 : Same H (upd H t (.tup [V.str "most", V.str "least"])) := same_new ht
    refine ⟨t, _, rfl, .inr (.inl (.inl upd_same)), rfl, rfl, true, ?_, iteT ?_⟩
    · have e := inV_strs (wordOf (.mx hi x ps)) ["most", "least"]
      rw [decide_eq_true (wo_mi hi x ps)] at e
      rw [if_neg Bool.false_ne_true]
      exact congrArg V.bl e
    obtain ⟨b, ys, rfl, hb, pb⟩ := hy
    refine ⟨_, rfl, _, _, _, _, rfl, rfl, .inl (.inl (s1 _ _ h)), at2, b, rfl, ⟨ys, .inl (.inl (s1 _ _ hb))⟩, fun D hD => ?_⟩
    refine lc_m (wd_tup pb) none (rPair rStr rStr) (fun p => (x, p.1)) hD (go_refl _) (fun H' g => .inl (.inl (g _ _ (s1 _ _ hb)))) (sz1000 (by omega)) (fun p v H1 H' L hp go y fin => ?_) fun H1 acc go hD2 pc => ?_
    · obtain ⟨rfl, r⟩ := y
      have s2 := s1.trans go
      obtain ⟨c, x1, x2, rfl, hc, rfl, rfl⟩ := mo (kp_of s2) r
      refine ⟨_, _, rfl, .inl (.inl hc), rfl, _, _, rfl, _, _, rfl, rfl, rfl, yes ⟨_, rfl, _, _, _, _, rfl, rfl, .inl (.inl (s2 _ _ h)), at1, _, rfl, ln2, fun t ht => ?_⟩⟩
      exact fin _ _ (same_new ht) ⟨t, _, _, rfl, upd_same, rfl, rfl⟩
    · refine ⟨D, _, rfl, hD2, trivial, fun od => ?_⟩
      exact q _ _ (s1.trans (Same.mut go hD)) ⟨D, od, _, rfl, upd_same, mos (kp_mut hD2 (fun z => z)) pc⟩
  | call f as rs =>
    refine ⟨false, sF (wo_ct f as rs), iteF ?_⟩
    refine ⟨_, rfl, _, _, _, _, rfl, rfl, .inl (.inl ha), at0, ln2, fun t ht => ?_⟩
    have s1 : Same H (upd H t (.tup [V.str "most", V.str "least"])) := same_new ht
    refine ⟨t, _, rfl, .inr (.inl (.inl upd_same)), rfl, rfl, false, ?_, iteF ⟨Nat.zero_le _, fun l hl => nil rfl _ l s1 hl⟩⟩
    have e := inV_strs (wordOf (.call f as rs)) ["most", "least"]
    rw [decide_eq_false (wo_ci f as rs)] at e
    rw [if_neg Bool.false_ne_true]
    exact congrArg V.bl e
/-! ### need_places -/
/-- slots: 0 self, 1 place -/
abbrev N_Procedure_need_place : List Str := [Str.ofString "self", Str.ofString "place"]
theorem sc_Procedure_need_place : FnScope N_Procedure_need_place [Str.ofString "self", Str.ofString "place"] (defScope s_Procedure_need_place) := ⟨rfl, rfl, rfl, by decide +kernel, rfl, by decide +kernel, by decide +kernel⟩
def S_need_place (K : PySem.W.Frag) : Sq := fun vs H Q => ∃ (v : V) (p : Pr) (i : Int), vs = [v, .int i] ∧ rPr K H v p ∧ 0 ≤ i ∧ i < p.size ∧ Q .non H
theorem r_need_place (T : Tx K mg) : FnR P w K mg base CX0 1 (a_Procedure_need_place K) (sp (S_need_place K)) := by
  refine fr_of (S := (S_need_place K)) (N := N_Procedure_need_place) (f_Procedure_need_place T) sc_Procedure_need_place (fun vs H Q h => by first | (obtain ⟨rfl, _⟩ := h; rfl) | (obtain ⟨_, rfl, _⟩ := h; rfl) | (obtain ⟨_, _, rfl, _⟩ := h; rfl) | (obtain ⟨_, _, _, rfl, _⟩ := h; rfl) | (obtain ⟨_, _, _, _, rfl, _⟩ := h; rfl) | (obtain ⟨_, _, _, _, _, rfl, _⟩ := h; rfl) | (obtain ⟨_, _, _, _, _, _, rfl, _⟩ := h; rfl) | (obtain ⟨_, _, _, _, _, _, _, rfl, _⟩ := h; rfl) | (obtain ⟨_, _, _, _, _, _, _, _, rfl, _⟩ := h; rfl) | (obtain ⟨_, _, _, _, _, _, _, _, _, rfl, _⟩ := h; rfl) | (obtain ⟨_, _, _, _, _, _, _, _, _, _, rfl, _⟩ := h; rfl) | (obtain ⟨_, _, _, _, _, _, _, _, _, _, _, rfl, _⟩ := h; rfl) | (obtain ⟨_, _, _, _, _, _, _, _, _, _, _, _, rfl, _⟩ := h; rfl) | (obtain ⟨_, _, _, _, _, _, _, _, _, _, _, _, _, rfl, _⟩ := h; rfl) | (obtain ⟨_, _, _, _, _, _, _, _, _, _, _, _, _, _, rfl, _⟩ := h; rfl) | (obtain ⟨_, _, _, _, _, _, _, _, _, _, _, _, _, _, _, rfl, _⟩ := h; rfl) | (obtain ⟨_, _, _, _, _, _, _, _, _, _, _, _, _, _, _, _, rfl, _⟩ := h; rfl)) (fun _ _ _ _ _ _ us hl => match us, hl with | [_, _], _ => rfl) (fun cdv A outer s H vs Q E hr h => ?_)
  obtain ⟨v, p, i, rfl, ⟨a, rfl, dx, k, u, r, w1, hs, _⟩, h0, h1, q⟩ := h
  refine ⟨_, (pss_one (ps_if (pt_not (pt_chain op_le op_lt pe_int (pv 1) (peSl K rfl (pv 0)))) (pss_one ps_never) pss_nil)), ?_⟩
  exact ⟨_, rfl, _, _, rfl, rfl, true, bT h0, iteT ⟨_, rfl, a, _, dx, _, _, _, _, rfl, hs, c_Procedure T, sl_held_size T, rfl, _, _, rfl, rfl, true, bT h1, iteF q⟩⟩
/-- slots: 0 self, 1 way, 2 place -/
abbrev N_Procedure_need_places : List Str := [Str.ofString "self", Str.ofString "way", Str.ofString "place"]
theorem sc_Procedure_need_places : FnScope N_Procedure_need_places [Str.ofString "self"] (defScope s_Procedure_need_places) := ⟨rfl, rfl, rfl, by decide +kernel, rfl, by decide +kernel, by decide +kernel⟩
def S_need (K : PySem.W.Frag) : Sq := fun vs H Q => ∃ (v : V) (p : Pr), vs = [v] ∧ rPr K H v p ∧ OkPr p ∧ ∀ H', Same H H' → Q .non H'
theorem r_need_places (T : Tx K mg) (c_Procedure_need_place : CalS P w K mg base 1 (cP K) "need_place" (S_need_place K)) : FnR P w K mg base CX0 2 (a_Procedure_need_places K) (sp (S_need K)) := by
  refine fr_of (S := (S_need K)) (N := N_Procedure_need_places) (f_Procedure_need_places T) sc_Procedure_need_places (fun vs H Q h => by first | (obtain ⟨rfl, _⟩ := h; rfl) | (obtain ⟨_, rfl, _⟩ := h; rfl) | (obtain ⟨_, _, rfl, _⟩ := h; rfl) | (obtain ⟨_, _, _, rfl, _⟩ := h; rfl) | (obtain ⟨_, _, _, _, rfl, _⟩ := h; rfl) | (obtain ⟨_, _, _, _, _, rfl, _⟩ := h; rfl) | (obtain ⟨_, _, _, _, _, _, rfl, _⟩ := h; rfl) | (obtain ⟨_, _, _, _, _, _, _, rfl, _⟩ := h; rfl) | (obtain ⟨_, _, _, _, _, _, _, _, rfl, _⟩ := h; rfl) | (obtain ⟨_, _, _, _, _, _, _, _, _, rfl, _⟩ := h; rfl) | (obtain ⟨_, _, _, _, _, _, _, _, _, _, rfl, _⟩ := h; rfl) | (obtain ⟨_, _, _, _, _, _, _, _, _, _, _, rfl, _⟩ := h; rfl) | (obtain ⟨_, _, _, _, _, _, _, _, _, _, _, _, rfl, _⟩ := h; rfl) | (obtain ⟨_, _, _, _, _, _, _, _, _, _, _, _, _, rfl, _⟩ := h; rfl) | (obtain ⟨_, _, _, _, _, _, _, _, _, _, _, _, _, _, rfl, _⟩ := h; rfl) | (obtain ⟨_, _, _, _, _, _, _, _, _, _, _, _, _, _, _, rfl, _⟩ := h; rfl) | (obtain ⟨_, _, _, _, _, _, _, _, _, _, _, _, _, _, _, _, rfl, _⟩ := h; rfl)) (fun _ _ _ _ _ _ us hl => match us, hl with | [_], _ => rfl) (fun cdv A outer s H vs Q E hr h => ?_)
  obtain ⟨v, p, rfl, hp, ok, q⟩ := h
  obtain ⟨a, rfl, dx, k, u, r, w1, hs, hk, hu, hr', ⟨d, od, xs, rfl, hd, pd⟩⟩ := id hp
  refine ⟨_, (pss_one (ps_for PassesOwn.never rfl (piList K rfl (peSl K rfl (pv 0))) (pg_name (i := 1) sc_Procedure_need_places.nd rfl (.inl rfl)) (pss_one (ps_for PassesOwn.never rfl (piTup K rfl (pe_slice (slT K rfl) (pv 1) po_none (po_some pe_int))) (pg_name (i := 2) sc_Procedure_need_places.nd rfl (.inl rfl)) (pss_one (ps_expr (pmethS c_Procedure_need_place hr (by decide) (pv 0) (pa_cons (pv 2) pa_nil)))))))), ?_⟩
  refine ⟨_, rfl, a, _, dx, _, _, _, _, rfl, hs, c_Procedure T, sl_held_ways T, rfl, d, rfl, ⟨xs, .inl (.inr ⟨_, hd⟩)⟩, ?_⟩
  refine for_d (wd_list pd) (fun (_ : List Wy) (σ : L2.St) (H' : Hp) => ∃ y1 y2, σ = [some (V.ref a), y1, y2] ∧ Same H H') ⟨none, none, rfl, Same.refl H⟩ ?_ ?_ ?_
  · rintro d1 σ H' ⟨_, _, _, s⟩
    exact .inl (.inr ⟨_, s _ _ hd⟩)
  · rintro d1 x rr z σ H1 H' el ⟨y1, y2, rfl, s⟩ ⟨rfl, rz⟩
    obtain ⟨b, u2, rfl, hb, hu2⟩ := mo (kp_of s) rz
    have hx := ok.ws x (by rw [el]; simp)
    refine ⟨_, rfl, _, rfl, _, _, rfl, .inl (.inl hb), fun z => absurd z.2 (by show ¬ HT.sIx 3 3 (some 2) = 3; decide), fun _ c hc => ?_⟩
    have s3 : Same H' (upd H' c (.tup (cutV [.int x.a, .int x.b, u2] none (some 2)))) := same_new hc
    have ec : cutV [V.int x.a, .int x.b, u2] none (some 2) = [V.int x.a, .int x.b] := rfl
    have pw : Paired (rInt H) [V.int x.a, .int x.b] [x.a, x.b] := of_ints [x.a, x.b]
    refine ⟨c, rfl, ⟨_, .inl (.inl upd_same)⟩, ?_⟩
    refine for_d (wd_tup pw) (fun (_ : List Int) (σ : L2.St) (H2 : Hp) => ∃ y2, σ = [some (V.ref a), some (V.ref b), y2] ∧ Same (upd H' c (.tup (cutV [.int x.a, .int x.b, u2] none (some 2)))) H2) ⟨_, rfl, Same.refl _⟩ ?_ ?_ ?_
    · rintro d2 σ H2 ⟨_, _, s4⟩
      exact .inl (.inl (s4 _ _ (by rw [upd_same, ec])))
    · rintro d2 i r2 z2 σ H2 H3 el2 ⟨y2, rfl, s4⟩ ⟨rfl, rfl⟩
      have sA := s.trans (Same.trans s3 s4)
      have hi : 0 ≤ i ∧ i < p.size := by
        have : i ∈ [x.a, x.b] := by rw [el2]; simp
        rcases List.mem_cons.mp this with e | hi
        · rw [e]; exact hx.1
        · rw [List.mem_singleton.mp hi]; exact hx.2.1
      exact ⟨_, rfl, a, dx, _, rfl, slt_keep (kp_of sA) hs, _, rfl, _, p, i, rfl, mo (kp_of sA) hp, hi.1, hi.2, _, rfl, s4⟩
    · rintro σ H2 ⟨y2, rfl, s4⟩
      exact ⟨_, _, rfl, s.trans (Same.trans s3 s4)⟩
  · rintro σ H1 ⟨y1, y2, rfl, s⟩
    exact q _ s
/-! ### need_names -/
/-- slots: 0 self, 1 wanted, 2 way, 3 name -/
abbrev N_Procedure_need_names : List Str := [Str.ofString "self", Str.ofString "wanted", Str.ofString "way", Str.ofString "name"]
theorem sc_Procedure_need_names : FnScope N_Procedure_need_names [Str.ofString "self"] (defScope s_Procedure_need_names) := ⟨rfl, rfl, rfl, by decide +kernel, rfl, by decide +kernel, by decide +kernel⟩
theorem setsOf_in {ks : List Str} {s : Sm} (h : SmIn ks s) : ∀ x ∈ setsOf s, x ∈ ks := by
  cases s with
  | skip => intro x hx; cases hx
  | sets xs =>
    intro x hx
    obtain ⟨p, hp, e⟩ := List.mem_map.mp (mem_srt.mp hx)
    rw [← e]
    exact (h p hp).1
  | mx hi x ps => intro y hy; rw [List.mem_singleton.mp hy]; exact h.1
  | call f as rs => intro x hx; exact h.2 x (mem_srt.mp hx)
theorem partsOf_in {ks : List Str} {s : Sm} (h : SmIn ks s) : ∀ p ∈ partsOf s, Nm ks p.1 := by
  cases s with
  | skip => intro x hx; cases hx
  | sets xs =>
    intro p hp
    obtain ⟨x, hx, e⟩ := List.mem_map.mp hp
    rw [← e]
    exact (h x hx).2
  | mx hi x ps => exact h.2
  | call f as rs => exact h.1
theorem big {n : Nat} (h : n ≤ 100000) : n < sizeLine := by rw [sizeLine_eq]; omega
theorem r_need_names (T : Tx K mg) (c_sets : Cal P w K mg base 1 "sets" S_sets) (c_reads : Cal P w K mg base 2 "reads" S_reads) : FnR P w K mg base CX0 3 (a_Procedure_need_names K) (sp (S_need K)) := by
  refine fr_of (S := (S_need K)) (N := N_Procedure_need_names) (f_Procedure_need_names T) sc_Procedure_need_names (fun vs H Q h => by first | (obtain ⟨rfl, _⟩ := h; rfl) | (obtain ⟨_, rfl, _⟩ := h; rfl) | (obtain ⟨_, _, rfl, _⟩ := h; rfl) | (obtain ⟨_, _, _, rfl, _⟩ := h; rfl) | (obtain ⟨_, _, _, _, rfl, _⟩ := h; rfl) | (obtain ⟨_, _, _, _, _, rfl, _⟩ := h; rfl) | (obtain ⟨_, _, _, _, _, _, rfl, _⟩ := h; rfl) | (obtain ⟨_, _, _, _, _, _, _, rfl, _⟩ := h; rfl) | (obtain ⟨_, _, _, _, _, _, _, _, rfl, _⟩ := h; rfl) | (obtain ⟨_, _, _, _, _, _, _, _, _, rfl, _⟩ := h; rfl) | (obtain ⟨_, _, _, _, _, _, _, _, _, _, rfl, _⟩ := h; rfl) | (obtain ⟨_, _, _, _, _, _, _, _, _, _, _, rfl, _⟩ := h; rfl) | (obtain ⟨_, _, _, _, _, _, _, _, _, _, _, _, rfl, _⟩ := h; rfl) | (obtain ⟨_, _, _, _, _, _, _, _, _, _, _, _, _, rfl, _⟩ := h; rfl) | (obtain ⟨_, _, _, _, _, _, _, _, _, _, _, _, _, _, rfl, _⟩ := h; rfl) | (obtain ⟨_, _, _, _, _, _, _, _, _, _, _, _, _, _, _, rfl, _⟩ := h; rfl) | (obtain ⟨_, _, _, _, _, _, _, _, _, _, _, _, _, _, _, _, rfl, _⟩ := h; rfl)) (fun _ _ _ _ _ _ us hl => match us, hl with | [_], _ => rfl) (fun cdv A outer s H vs Q E hr h => ?_)
  obtain ⟨v, p, rfl, hp, ok, q⟩ := h
  obtain ⟨a, rfl, dx, k, u, r, w1, hs, ⟨kd0, kod, kkvs, rfl, hkd, kdp⟩, ⟨ua, us, rfl, hua, pu⟩, ⟨ra, rs, rfl, hra, pr⟩, ⟨d, od, xs, rfl, hd, pd⟩⟩ := id hp
  refine ⟨_, (pss_cons (ps_set (i := 1) sc_Procedure_need_names.nd rfl (.inl rfl) (pe_lst (StX.pa_star (peSl K rfl (pv 0)) (StX.pa_star (peSl K rfl (pv 0)) pa_nil))))
      (pss_cons (ps_for PassesOwn.never rfl (piList K rfl (peSl K rfl (pv 0))) (pg_name (i := 2) sc_Procedure_need_names.nd rfl (.inl rfl)) (pss_one (ps_expr (pe_bm PySem.F.plainAttrs_list PySem.F.slot_list_extend PySem.F.type_list_extend mt_extend (pv 1) (pa_cons (pe_callB (cSortS K rfl) rfl (n_sorted T) (by decide +kernel) (pa_cons (pe_lst (StX.pa_star (pcall c_sets hr (by decide) rfl (pa_cons (pe_ix (ixT K rfl) (pv 2) pe_int (fun _ _ => rfl)) pa_nil)) (StX.pa_star (pcall c_reads hr (by decide) rfl (pa_cons (pe_ix (ixT K rfl) (pv 2) pe_int (fun _ _ => rfl)) pa_nil)) pa_nil))) pa_nil)) pa_nil)))))
      (pss_one (ps_for PassesOwn.never rfl (piList K rfl (pv 1)) (pg_name (i := 3) sc_Procedure_need_names.nd rfl (.inl rfl)) (pss_one (ps_if (pt_cmp (pc_dnotin (hu_of hr) (pv 3) (peSl K rfl (pv 0)))) (pss_one ps_never) pss_nil)))))), ?_⟩
  refine ⟨_, rfl, a, _, dx, _, _, _, _, rfl, hs, c_Procedure T, sl_held_params T, rfl, ua, us, rfl, .inl (.inl (.inl hua)), ?_⟩
  refine ⟨_, rfl, a, _, dx, _, _, _, _, rfl, hs, c_Procedure T, sl_held_results T, rfl, ra, rs, rfl, .inl (.inl (.inl hra)), ?_⟩
  have hl0 : (us ++ (rs ++ [])).length ≤ 16 := by
    rw [List.append_nil, List.length_append, Paired.length pu, Paired.length pr]
    have := ok.ps.2.1
    have := ok.rs.2.1
    omega
  refine ⟨Nat.le_of_lt (big (by omega)), fun f hfn => ?_⟩
  have s0 : Same H (upd H f (.lst (us ++ (rs ++ [])))) := same_new hfn
  refine ⟨_, rfl, a, _, dx, _, _, _, _, rfl, slt_keep (kp_of s0) hs, c_Procedure T, sl_held_ways T, rfl, d, rfl, ⟨xs, .inl (.inr ⟨_, s0 _ _ hd⟩)⟩, ?_⟩
  refine for_d (wd_list pd) (fun (d1 : List Wy) (σ : L2.St) (H' : Hp) => ∃ y2 y3, σ = [some (V.ref a), some (V.ref f), y2, y3] ∧ Same H H' ∧ ∃ (acc : List V) (zs : List Str), H' f = some (.lst acc) ∧ acc = zs.map V.str ∧ (∀ z ∈ zs, z ∈ keys p.kinds) ∧ zs.length ≤ 16 + 64 * d1.length) ?_ ?_ ?_ ?_
  · refine ⟨none, none, rfl, s0, _, p.params ++ p.results, upd_same, ?_, fun z hz => ?_, ?_⟩
    · rw [List.append_nil, strs_of pu, strs_of pr, List.map_append]
    · rcases List.mem_append.mp hz with hz | hz
      · exact ok.ps.2.2 z hz
      · exact ok.rs.2.2 z hz
    · rw [List.length_append]
      have := ok.ps.2.1
      have := ok.rs.2.1
      simp only [List.length_nil]
      omega
  · rintro d1 σ H' ⟨_, _, _, s, _⟩
    exact .inl (.inr ⟨_, s _ _ hd⟩)
  · rintro d1 x rr z σ H1 H' el ⟨y2, y3, rfl, s, acc, zs, hk, ea, hz, hl⟩ ⟨rfl, rz⟩
    obtain ⟨b, u2, rfl, hb, hu2⟩ := mo (kp_of s) rz
    have hx := ok.ws x (by rw [el]; simp)
    refine ⟨_, rfl, .inl ⟨rfl, _, .inl (.inl hk)⟩, ?_⟩
    refine ⟨_, rfl, _, _, _, _, rfl, rfl, .inl (.inl hb), at2, _, x.s, rfl, hu2, hx.2.2.1, fun v3 H3 s3 ⟨l3, o3, xs3, e3, h3, p3⟩ => ?_⟩
    subst e3
    refine ⟨l3, xs3, rfl, .inr (.inl (.inr ⟨_, h3⟩)), ?_⟩
    refine ⟨_, rfl, _, _, _, _, rfl, rfl, .inl (.inl (s3 _ _ hb)), at2, _, x.s, rfl, mo (kp_of s3) hu2, hx.2.2.1, fun v4 zs4 H4 s4 ⟨l4, o4, xs4, e4, h4, p4⟩ hl4 hz4 => ?_⟩
    subst e4
    refine ⟨l4, xs4, rfl, .inr (.inl (.inr ⟨_, h4⟩)), ?_⟩
    have e34 : xs3 ++ (xs4 ++ []) = (setsOf x.s ++ zs4).map V.str := by rw [List.append_nil, strs_of p3, strs_of p4, List.map_append]
    have hl34 : (setsOf x.s ++ zs4).length < 64 := by
      rw [List.length_append]
      have := hx.2.2.2.2.2
      omega
    refine ⟨by rw [e34, List.length_map]; exact Nat.le_of_lt (big (by omega)), fun l5 hl5 => ?_⟩
    have s5 : Same H4 (upd H4 l5 (.lst (xs3 ++ (xs4 ++ [])))) := same_new hl5
    refine ⟨l5, _, rfl, .inl (.inl (by rw [upd_same, e34])), hl34, fun ys l6 hpm hso hl6 => ?_⟩
    have s6 : Same (upd H4 l5 (.lst (xs3 ++ (xs4 ++ [])))) (upd (upd H4 l5 (.lst (xs3 ++ (xs4 ++ [])))) l6 (.lst (ys.map V.str))) := same_new hl6
    have sA := s3.trans (s4.trans (s5.trans s6))
    have hd1 : d1.length ≤ 60 := by
      have h1 : d1.length ≤ p.ways.length := by rw [el, List.length_append]; omega
      have := ok.wl
      omega
    refine ⟨f, l6, acc, _, rfl, rfl, sA _ _ hk, upd_same, Nat.le_of_lt (big ?_), _, _, rfl, Same.mut (s.trans sA) hfn, _, zs ++ ys, upd_same, by rw [ea, List.map_append], fun z hz2 => ?_, ?_⟩
    · rw [ea, List.length_map, List.length_map, hpm.length_eq]
      omega
    · rcases List.mem_append.mp hz2 with hz2 | hz2
      · exact hz z hz2
      · rcases List.mem_append.mp (hpm.mem_iff.mp hz2) with hz3 | hz3
        · exact setsOf_in hx.2.2.2.1 z hz3
        · obtain ⟨hne, pp, hpp, ez⟩ := hz4 z hz3
          have := partsOf_in hx.2.2.2.1 pp hpp
          rw [ez] at this
          exact this.resolve_left hne
    · rw [List.length_append, hpm.length_eq, List.length_append]
      simp only [List.length_append, List.length_singleton]
      rw [List.length_append] at hl34
      omega
  · rintro σ H1 ⟨y2, y3, rfl, s, acc, zs, hk, ea, hz, hl⟩
    subst ea
    refine ⟨_, rfl, f, rfl, ⟨_, .inl (.inl hk)⟩, ?_⟩
    refine for_d (wd_list (of_strs (H := H) zs)) (fun (_ : List Str) (σ : L2.St) (H' : Hp) => ∃ y3, σ = [some (V.ref a), some (V.ref f), y2, y3] ∧ Same H1 H') ⟨_, rfl, Same.refl _⟩ ?_ ?_ ?_
    · rintro d2 σ H' ⟨_, _, s2⟩
      exact .inl (.inl (s2 _ _ hk))
    · rintro d2 z rr z2 σ H2 H' el ⟨y3, rfl, s2⟩ ⟨rfl, rfl⟩
      have sA := s.trans s2
      have hzm : z ∈ keys p.kinds := hz z (by rw [el]; simp)
      obtain ⟨kz, ekz⟩ := lk_some hzm
      obtain ⟨v9, ev9, _⟩ := kdp.some ekz
      refine ⟨_, rfl, _, rfl, a, _, dx, _, _, _, _, rfl, slt_keep (kp_of sA) hs, c_Procedure T, sl_held_kinds T, rfl, kd0, _, rfl, dgR (.inr ⟨kod, sA _ _ hkd⟩) rfl, _, rfl, ?_⟩
      rw [ev9]
      exact iteF ⟨_, rfl, s2⟩
    · rintro σ H2 ⟨y3, rfl, s2⟩
      exact q _ (s.trans s2)
end Fp

/-! ## FpProcD -/
set_option Elab.async false
set_option linter.all false
set_option maxRecDepth 100000
set_option maxHeartbeats 2000000
namespace Fp
open PySem PySem.Spec PyProof.Rows L2
variable {P : Program} {w : World} {K : PySem.W.Frag} {mg : Str → Option Value} {base : Heap}
/-! ### need_kinds -/
def wordK : Sm → Str
  | .mx hi _ _ => hiK hi
  | _ => ""
theorem getW (s : Sm) : (valV (mergeK [] [((Sum.inr "most" : Key), V.str "high"), (Sum.inr "least", V.str "low")]) (Sum.inr (wordOf s))).getD (.str e0) = .str (wordK s) := by
  cases s with
  | skip => exact show (valV (mergeK [] [((Sum.inr "most" : Key), V.str "high"), (Sum.inr "least", V.str "low")]) (Sum.inr "skip")).getD (.str e0) = .str "" from by decide +kernel
  | sets xs => exact show (valV (mergeK [] [((Sum.inr "most" : Key), V.str "high"), (Sum.inr "least", V.str "low")]) (Sum.inr "set")).getD (.str e0) = .str "" from by decide +kernel
  | call f as rs => exact show (valV (mergeK [] [((Sum.inr "most" : Key), V.str "high"), (Sum.inr "least", V.str "low")]) (Sum.inr "call")).getD (.str e0) = .str "" from by decide +kernel
  | mx hi x ps =>
    cases hi
    · exact show (valV (mergeK [] [((Sum.inr "most" : Key), V.str "high"), (Sum.inr "least", V.str "low")]) (Sum.inr "least")).getD (.str e0) = .str "low" from by decide +kernel
    · exact show (valV (mergeK [] [((Sum.inr "most" : Key), V.str "high"), (Sum.inr "least", V.str "low")]) (Sum.inr "most")).getD (.str e0) = .str "high" from by decide +kernel
theorem target_ok {ks : List (Str × Str)} {s : Sm} (h : SmIn (keys ks) s) (k : KindOk ks s) : ∀ t ∈ targetsOf s, t.1 ∈ keys ks ∧ Nm (keys ks) t.2 ∧ wordK s ∈ (["", kindIn ks t.1] : List Str) ∧ kd ks t.2 ∈ (["plain", kindIn ks t.1] : List Str) := by
  cases s with
  | skip => intro t ht; cases ht
  | call f as rs => intro t ht; cases ht
  | sets xs =>
    intro t ht
    obtain ⟨x, hx, rfl⟩ := List.mem_map.mp ht
    refine ⟨(h x hx).1, (h x hx).2, List.mem_cons_self, ?_⟩
    rcases k x hx with e | e
    · rw [e]; exact List.mem_cons_self
    · exact List.mem_cons_of_mem _ (by rw [e]; exact List.mem_cons_self)
  | mx hi x ps =>
    intro t ht
    obtain ⟨p, hp, rfl⟩ := List.mem_map.mp ht
    refine ⟨h.1, h.2 p hp, List.mem_cons_of_mem _ ?_, ?_⟩
    · show hiK hi ∈ [kindIn ks x]
      rw [k.1]; exact List.mem_cons_self
    · rcases k.2 p hp with e | e
      · show kd ks p.1 ∈ _
        rw [e]; exact List.mem_cons_self
      · exact List.mem_cons_of_mem _ (by show kd ks p.1 ∈ [kindIn ks x]; rw [e]; exact List.mem_cons_self)
/-- slots: 0 self, 1 way, 2 word, 3 x, 4 y -/
abbrev N_Procedure_need_kinds : List Str := [Str.ofString "self", Str.ofString "way", Str.ofString "word", Str.ofString "x", Str.ofString "y"]
theorem sc_Procedure_need_kinds : FnScope N_Procedure_need_kinds [Str.ofString "self"] (defScope s_Procedure_need_kinds) := ⟨rfl, rfl, rfl, by decide +kernel, rfl, by decide +kernel, by decide +kernel⟩
theorem r_need_kinds (T : Tx K mg) (c_targets : Cal P w K mg base 1 "targets" S_targets) (c_fits : Cal P w K mg base 1 "fits" S_fits) (c_Procedure_kind : CalS P w K mg base 1 (cP K) "kind" (S_Procedure_kind K)) : FnR P w K mg base CX0 2 (a_Procedure_need_kinds K) (sp (S_need K)) := by
  refine fr_of (S := (S_need K)) (N := N_Procedure_need_kinds) (f_Procedure_need_kinds T) sc_Procedure_need_kinds (fun vs H Q h => by first | (obtain ⟨rfl, _⟩ := h; rfl) | (obtain ⟨_, rfl, _⟩ := h; rfl) | (obtain ⟨_, _, rfl, _⟩ := h; rfl) | (obtain ⟨_, _, _, rfl, _⟩ := h; rfl) | (obtain ⟨_, _, _, _, rfl, _⟩ := h; rfl) | (obtain ⟨_, _, _, _, _, rfl, _⟩ := h; rfl) | (obtain ⟨_, _, _, _, _, _, rfl, _⟩ := h; rfl) | (obtain ⟨_, _, _, _, _, _, _, rfl, _⟩ := h; rfl) | (obtain ⟨_, _, _, _, _, _, _, _, rfl, _⟩ := h; rfl) | (obtain ⟨_, _, _, _, _, _, _, _, _, rfl, _⟩ := h; rfl) | (obtain ⟨_, _, _, _, _, _, _, _, _, _, rfl, _⟩ := h; rfl) | (obtain ⟨_, _, _, _, _, _, _, _, _, _, _, rfl, _⟩ := h; rfl) | (obtain ⟨_, _, _, _, _, _, _, _, _, _, _, _, rfl, _⟩ := h; rfl) | (obtain ⟨_, _, _, _, _, _, _, _, _, _, _, _, _, rfl, _⟩ := h; rfl) | (obtain ⟨_, _, _, _, _, _, _, _, _, _, _, _, _, _, rfl, _⟩ := h; rfl) | (obtain ⟨_, _, _, _, _, _, _, _, _, _, _, _, _, _, _, rfl, _⟩ := h; rfl) | (obtain ⟨_, _, _, _, _, _, _, _, _, _, _, _, _, _, _, _, rfl, _⟩ := h; rfl)) (fun _ _ _ _ _ _ us hl => match us, hl with | [_], _ => rfl) (fun cdv A outer s H vs Q E hr h => ?_)
  obtain ⟨v, p, rfl, hp, ok, q⟩ := h
  obtain ⟨a, rfl, dx, k, u, r, w1, hs, ⟨kd0, kod, kkvs, rfl, hkd, kdp⟩, hu, hr', ⟨d, od, xs, rfl, hd, pd⟩⟩ := id hp
  refine ⟨_, (pss_one (ps_for PassesOwn.never rfl (piList K rfl (peSl K rfl (pv 0))) (pg_name (i := 1) sc_Procedure_need_kinds.nd rfl (.inl rfl)) (pss_cons (ps_set (i := 2) sc_Procedure_need_kinds.nd rfl (.inl rfl) (pe_dget2 (hu_of hr) (pe_disp (pps_cons pe_str pe_str (pps_cons pe_str pe_str pps_nil)) (by rfl) (by rfl) (fun z => by cases z) (by decide)) (pe_ix (ixT K rfl) (pe_ix (ixT K rfl) (pv 1) pe_int (fun _ _ => rfl)) pe_int (fun _ _ => rfl)) pe_str (by constructor <;> rfl)))
        (pss_one (ps_for PassesOwn.never rfl (piList K rfl (pcall c_targets hr (by decide) rfl (pa_cons (pe_ix (ixT K rfl) (pv 1) pe_int (fun _ _ => rfl)) pa_nil))) (pgTup (n := 2) K rfl rfl (pgs_cons (pg_name (i := 3) sc_Procedure_need_kinds.nd rfl (.inl rfl)) (pgs_cons (pg_name (i := 4) sc_Procedure_need_kinds.nd rfl (.inl rfl)) pgs_nil))) (pss_one (ps_if (PW.pt (pw_or (pt_cmpR (ninSq K rfl) (pv 2) (pe_tup (pa_cons pe_str (pa_cons (pe_dget (hu_of hr) (peSl K rfl (pv 0)) (pv 3) (fun _ _ => rfl)) pa_nil))) (by rfl)) (pw_or1 (pt_not (pt_val (pcall c_fits hr (by decide) rfl (pa_cons (pmethS c_Procedure_kind hr (by decide) (pv 0) (pa_cons (pv 4) pa_nil)) (pa_cons (pe_dget (hu_of hr) (peSl K rfl (pv 0)) (pv 3) (fun _ _ => rfl)) pa_nil)))))))) (pss_one ps_never) pss_nil))))))), ?_⟩
  refine ⟨_, rfl, a, _, dx, _, _, _, _, rfl, hs, c_Procedure T, sl_held_ways T, rfl, d, rfl, ⟨xs, .inl (.inr ⟨_, hd⟩)⟩, ?_⟩
  refine for_d (wd_list pd) (fun (_ : List Wy) (σ : L2.St) (H' : Hp) => ∃ y1 y2 y3 y4, σ = [some (V.ref a), y1, y2, y3, y4] ∧ Same H H') ⟨_, _, _, _, rfl, Same.refl H⟩ ?_ ?_ ?_
  · rintro d1 σ H' ⟨_, _, _, _, _, s⟩
    exact .inl (.inr ⟨_, s _ _ hd⟩)
  · rintro d1 x rr z σ H1 H' el ⟨y1, y2, y3, y4, rfl, s⟩ ⟨rfl, rz⟩
    obtain ⟨b, u2, rfl, hb, hu2⟩ := mo (kp_of s) rz
    have hx := ok.ws x (by rw [el]; simp)
    obtain ⟨sa, rest, rfl, hsa⟩ := hu2.head
    intro pp hpp
    refine ⟨upd_same, [(Sum.inr "most", V.str "high"), (Sum.inr "least", V.str "low")], rfl, Nat.le_of_ble_eq_true rfl, pp, rfl, .inl ⟨_, .inl upd_same⟩, ?_⟩
    rw [upd_upd]
    have s1 : Same H' (upd H' pp (.dK (mergeK [] [(Sum.inr "most", V.str "high"), (Sum.inr "least", V.str "low")]))) := same_new hpp
    refine ⟨_, rfl, _, _, _, _, rfl, rfl, .inl (.inl (s1 _ _ hb)), at2, _, _, _, _, rfl, rfl, .inl (.inl (s1 _ _ hsa)), at0, _, dgR (.inl upd_same) rfl, ?_⟩
    rw [getW]
    refine ⟨_, rfl, _, _, _, _, rfl, rfl, .inl (.inl (s1 _ _ hb)), at2, _, x.s, rfl, mo (kp_of s1) hu2, hx.2.2.1, fun v3 H3 s3 ⟨l3, o3, xs3, e3, h3, p3⟩ => ?_⟩
    subst e3
    have sB := s.trans (s1.trans s3)
    refine ⟨l3, rfl, ⟨xs3, .inl (.inr ⟨_, h3⟩)⟩, ?_⟩
    refine for_d (wd_list p3) (fun (_ : List (Str × Str)) (σ : L2.St) (H2 : Hp) => ∃ y3 y4, σ = [some (V.ref a), some (V.ref b), some (V.str (wordK x.s)), y3, y4] ∧ Same H3 H2) ⟨_, _, rfl, Same.refl _⟩ ?_ ?_ ?_
    · rintro d2 σ H2 ⟨_, _, _, s4⟩
      exact .inl (.inr ⟨_, s4 _ _ h3⟩)
    · rintro d2 t r2 z2 σ H2 H4 el2 ⟨y3, y4, rfl, s4⟩ ⟨rfl, rt⟩
      obtain ⟨c, x1, x2, rfl, hc, rfl, rfl⟩ := mo (kp_of s4) rt
      have sC := sB.trans s4
      obtain ⟨t1, t2, t3, t4⟩ := target_ok hx.2.2.2.1 hx.2.2.2.2.1 t (by rw [el2]; simp)
      obtain ⟨kx, ekx⟩ := lk_some t1
      have ek : kindIn p.kinds t.1 = kx := by unfold kindIn; rw [ekx]; rfl
      obtain ⟨v9, ev9, rfl⟩ := kdp.some ekx
      rw [ek] at t3 t4
      refine ⟨_, _, rfl, .inl (.inl hc), rfl, _, _, rfl, _, _, rfl, rfl, ?_⟩
      refine ⟨_, rfl, _, rfl, a, _, dx, _, _, _, _, rfl, slt_keep (kp_of sC) hs, c_Procedure T, sl_held_kinds T, rfl, _, rfl, kd0, _, rfl, dgR (.inr ⟨kod, sC _ _ hkd⟩) ev9, ln2, fun t5 ht5 => ?_⟩
      have s5 : Same H4 (upd H4 t5 (.tup [V.str "", V.str kx])) := same_new ht5
      have sD := sC.trans s5
      refine ⟨t5, _, rfl, .inr (.inl (.inl upd_same)), rfl, rfl, false, ?_, iteF ?_⟩
      · have e := inV_strs (wordK x.s) ["", kx]
        rw [decide_eq_true t3] at e
        rw [if_pos rfl, show inV (.str (wordK x.s)) [V.str "", V.str kx] = true from e]
        rfl
      refine ⟨_, rfl, a, dx, _, rfl, slt_keep (kp_of sD) hs, _, rfl, _, p, t.2, rfl, mo (kp_of sD) hp, t2, ?_⟩
      refine ⟨_, rfl, a, _, dx, _, _, _, _, rfl, slt_keep (kp_of sD) hs, c_Procedure T, sl_held_kinds T, rfl, _, rfl, kd0, _, rfl, dgR (.inr ⟨kod, sD _ _ hkd⟩) ev9, ?_⟩
      refine ⟨_, _, rfl, fun H6 s6 => ⟨true, bT t4, iteF ⟨_, _, rfl, s4.trans (s5.trans s6)⟩⟩⟩
    · rintro σ H2 ⟨y3, y4, rfl, s4⟩
      exact ⟨_, _, _, _, rfl, sB.trans s4⟩
  · rintro σ H1 ⟨y1, y2, y3, y4, rfl, s⟩
    exact q _ s
end Fp

/-! ## FpProcE -/
set_option Elab.async false
set_option linter.all false
set_option maxRecDepth 100000
set_option maxHeartbeats 2000000
namespace Fp
open PySem PySem.Spec PyProof.Rows L2
variable {P : Program} {w : World} {K : PySem.W.Frag} {mg : Str → Option Value} {base : Heap}
/-! ### what a making leaves: all but the new instance -/
def ImD : HO → Prop
  | .tup _ => True
  | .frz _ _ => True
  | _ => False
def KeepD (H H' : Hp) : Prop := ∀ a o, ImD o → H a = some o → H' a = some o
class MonoD {α : Type} (R : Rep α) : Prop where
  mono : ∀ {H H' : Hp} {v : V} {x : α}, KeepD H H' → R H v x → R H' v x
theorem md {α : Type} {R : Rep α} [m : MonoD R] {H H' : Hp} {v : V} {x : α} (k : KeepD H H') (h : R H v x) : R H' v x := m.mono k h
theorem mds {α : Type} {R : Rep α} [m : MonoD R] {H H' : Hp} {xs : List V} {l : List α} (k : KeepD H H') (h : Paired (R H) xs l) : Paired (R H') xs l := L2.Paired.mapP h fun _ _ q => md k q
instance : MonoD rStr := ⟨fun _ h => h⟩
instance : MonoD rInt := ⟨fun _ h => h⟩
section
variable {α β γ : Type} {R : Rep α} {S : Rep β} {T : Rep γ}
instance [MonoD R] [MonoD S] : MonoD (rPair R S) := ⟨fun k ⟨a, x, y, e, h, p, q⟩ => ⟨a, x, y, e, k a _ trivial h, md k p, md k q⟩⟩
instance [MonoD R] [MonoD S] [MonoD T] : MonoD (rTri R S T) := ⟨fun k ⟨a, x, y, z, e, h, p, q, r⟩ => ⟨a, x, y, z, e, k a _ trivial h, md k p, md k q, md k r⟩⟩
instance [MonoD R] : MonoD (rTup R) := ⟨fun k ⟨a, xs, e, h, p⟩ => ⟨a, xs, e, k a _ trivial h, mds k p⟩⟩
instance [MonoD R] : MonoD (rLst R) := ⟨fun k ⟨a, od, xs, e, h, p⟩ => ⟨a, od, xs, e, k a _ trivial h, mds k p⟩⟩
instance [MonoD R] : MonoD (rDic R) := ⟨fun k ⟨a, od, kvs, e, h, p⟩ => ⟨a, od, kvs, e, k a _ trivial h, L2.Paired.mapP p fun _ _ q => ⟨q.1, md k q.2⟩⟩⟩
end
instance : MonoD rSm := ⟨fun {H H' v x} k h => by
  cases x with
  | skip => obtain ⟨a, e, h⟩ := h; exact ⟨a, e, k _ _ trivial h⟩
  | sets xs => obtain ⟨a, w, e, h, p⟩ := h; exact ⟨a, w, e, k _ _ trivial h, md k p⟩
  | mx hi x ps => obtain ⟨a, w, e, h, p⟩ := h; exact ⟨a, w, e, k _ _ trivial h, md k p⟩
  | call f as rs => obtain ⟨a, w, u, e, h, p, q⟩ := h; exact ⟨a, w, u, e, k _ _ trivial h, md k p, md k q⟩⟩
instance : MonoD rWy := ⟨fun k ⟨a, u, e, h, p⟩ => ⟨a, u, e, k _ _ trivial h, md k p⟩⟩
/-- all but x, dx -/
def Off (x dx : Addr) (H H' : Hp) : Prop := ∀ b o, b ≠ x → b ≠ dx → H b = some o → H' b = some o
theorem Off.trans {x dx : Addr} {H H1 H2 : Hp} (a : Off x dx H H1) (b : Off x dx H1 H2) : Off x dx H H2 := fun c o h1 h2 e => b c o h1 h2 (a c o h1 h2 e)
theorem off_of {x dx : Addr} {H H' : Hp} (s : Same H H') : Off x dx H H' := fun b o _ _ e => s b o e
theorem off_slH {H : Hp} {x C dx : Addr} {vs : List (Option V)} : Off x dx H (SlX.slH H x C dx vs) := fun b o h1 h2 e => by rw [SlX.slH_ne h1 h2]; exact e
theorem slt_not {H : Hp} {x C dx : Addr} {vs : List (Option V)} (h : SlX.Slt H x C dx vs) (hd : ∃ o, H dx = some o ∧ ¬ ImD o) : ∀ o, ImD o → H x ≠ some o ∧ H dx ≠ some o := by
  intro o i
  obtain ⟨o2, e2, n2⟩ := hd
  refine ⟨fun z => ?_, fun z => by rw [z] at e2; cases e2; exact n2 i⟩
  rcases h with ⟨h, _⟩ | ⟨h, _⟩
  · rw [h] at z; cases z; exact i
  · rw [h] at z; cases z; exact i
theorem Off.keepD {x dx C : Addr} {vs : List (Option V)} {H H' : Hp} (f : Off x dx H H') (h : SlX.Slt H x C dx vs) (hd : ∃ o, H dx = some o ∧ ¬ ImD o) : KeepD H H' := fun a o i e => by
  have z := slt_not h hd o i
  exact f a o (fun q => z.1 (q ▸ e)) (fun q => z.2 (q ▸ e)) e
theorem slH_dx {H : Hp} {x C dx : Addr} {vs : List (Option V)} (ne : dx ≠ x) : ∃ o, (SlX.slH H x C dx vs) dx = some o ∧ ¬ ImD o := ⟨.xd [], by unfold SlX.slH; rw [upd_ne ne, upd_same], fun z => z⟩
/-! ### Procedure.__init__ -/
def sortK (ks : List (Str × Str)) : List (Str × Str) := (srt (keys ks)).map fun x => (x, kindIn ks x)
theorem sortK_keys (ks : List (Str × Str)) : keys (sortK ks) = srt (keys ks) := keys_self _ _
/-- slots: 0 self, 1 names*, 2 params, 3 results, 4 size, 5 ways, 6 rights, 7 one, 8 name -/
abbrev N_Procedure_init : List Str := [Str.ofString "self", Str.ofString "names", Str.ofString "params", Str.ofString "results", Str.ofString "size", Str.ofString "ways", Str.ofString "rights", Str.ofString "one", Str.ofString "name"]
theorem sc_Procedure_init : FnScope N_Procedure_init [Str.ofString "self", Str.ofString "names", Str.ofString "params", Str.ofString "results", Str.ofString "size", Str.ofString "ways"] (defScope s_Procedure_init) := ⟨rfl, rfl, rfl, by decide +kernel, rfl, by decide +kernel, by decide +kernel⟩
def S_Procedure_init (K : PySem.W.Frag) : Sq := fun vs H Q => ∃ (x dx a c : Addr) (kv rv : V) (ks : List (Str × Str)) (ps rs : List Str) (size : Int) (ws : List Wy) (xs : List V), vs = [.ref x, kv, .ref a, rv, .int size, .ref c] ∧
  H x = some (.ins (cP K) dx []) ∧ dx ≠ x ∧ H dx = some (.own x) ∧ rDic rStr H kv ks ∧ WfK ks ∧ H a = some (.lst (ps.map V.str)) ∧ rTup rStr H rv rs ∧ H c = some (.lst xs) ∧ Paired (rWy H) xs ws ∧
  OkPr ⟨sortK ks, ps, rs, size, ws⟩ ∧ ∀ H', Off x dx H H' → PrAt K H' x ⟨sortK ks, ps, rs, size, ws⟩ → Q .non H'
theorem r_Procedure_init (T : Tx K mg) (c_are_kinds : Cal P w K mg base 2 "are_kinds" S_are_kinds) (c_are_names : Cal P w K mg base 2 "are_names" S_are_names) (c_is_integer : Cal P w K mg base 1 "is_integer" S_is_integer) (c_is_way : Cal P w K mg base 7 "is_way" S_is_way) (c_frozen : Cal P w K mg base 1 "frozen" S_frozen)
    (c_Procedure_need_names : CalS P w K mg base 3 (cP K) "need_names" (S_need K)) (c_Procedure_need_places : CalS P w K mg base 2 (cP K) "need_places" (S_need K)) (c_Procedure_need_kinds : CalS P w K mg base 2 (cP K) "need_kinds" (S_need K)) : FnR P w K mg base CX0 8 (a_Procedure_init K) (sp (S_Procedure_init K)) := by
  refine fr_of (S := (S_Procedure_init K)) (N := N_Procedure_init) (f_Procedure_init T) sc_Procedure_init (fun vs H Q h => by first | (obtain ⟨rfl, _⟩ := h; rfl) | (obtain ⟨_, rfl, _⟩ := h; rfl) | (obtain ⟨_, _, rfl, _⟩ := h; rfl) | (obtain ⟨_, _, _, rfl, _⟩ := h; rfl) | (obtain ⟨_, _, _, _, rfl, _⟩ := h; rfl) | (obtain ⟨_, _, _, _, _, rfl, _⟩ := h; rfl) | (obtain ⟨_, _, _, _, _, _, rfl, _⟩ := h; rfl) | (obtain ⟨_, _, _, _, _, _, _, rfl, _⟩ := h; rfl) | (obtain ⟨_, _, _, _, _, _, _, _, rfl, _⟩ := h; rfl) | (obtain ⟨_, _, _, _, _, _, _, _, _, rfl, _⟩ := h; rfl) | (obtain ⟨_, _, _, _, _, _, _, _, _, _, rfl, _⟩ := h; rfl) | (obtain ⟨_, _, _, _, _, _, _, _, _, _, _, rfl, _⟩ := h; rfl) | (obtain ⟨_, _, _, _, _, _, _, _, _, _, _, _, rfl, _⟩ := h; rfl) | (obtain ⟨_, _, _, _, _, _, _, _, _, _, _, _, _, rfl, _⟩ := h; rfl) | (obtain ⟨_, _, _, _, _, _, _, _, _, _, _, _, _, _, rfl, _⟩ := h; rfl) | (obtain ⟨_, _, _, _, _, _, _, _, _, _, _, _, _, _, _, rfl, _⟩ := h; rfl) | (obtain ⟨_, _, _, _, _, _, _, _, _, _, _, _, _, _, _, _, rfl, _⟩ := h; rfl)) (fun _ _ _ _ _ _ us hl => match us, hl with | [_, _, _, _, _, _], _ => rfl) (fun cdv A outer s H vs Q E hr h => ?_)
  obtain ⟨x, dx, a, c, kv, rv, ks, ps, rs, size, ws, xs, rfl, hx, hne, hdx, hk, wk, ha, hr', hc, pw, ok, q⟩ := h
  have hkm : ∀ z, z ∈ keys (sortK ks) ↔ z ∈ keys ks := fun z => by rw [sortK_keys]; exact mem_srt
  refine ⟨_, (pss_cons (ps_set (i := 6) sc_Procedure_init.nd rfl (.inl rfl) (pe_lst (pa_cons (pcall c_are_kinds hr (by decide) rfl (pa_cons (pv 1) pa_nil)) (pa_cons (pcall c_are_names hr (by decide) rfl (pa_cons (pv 2) pa_nil)) (pa_cons (pcall c_are_names hr (by decide) rfl (pa_cons (pv 3) pa_nil)) (pa_cons (pe_and (pcall c_is_integer hr (by decide) rfl (pa_cons (pv 4) pa_nil)) (pe_one (pe_cmpR op_ge (pv 4) pe_int (nomark _)))) pa_nil))))))
      (pss_cons (ps_expr (pe_bm PySem.F.plainAttrs_list PySem.F.slot_list_append PySem.F.type_list_append mt_append (pv 6) (pa_cons (pe_and (pe_callB (cIsiT K rfl) rfl (n_isinstance T) (by decide +kernel) (pa_cons (pv 5) (pa_cons (pe_tup (pa_cons (pe_bltn (v := .ty "list") rfl (n_list T) (by decide +kernel) rfl) (pa_cons (pe_bltn (v := .ty "tuple") rfl (n_tuple T) (by decide +kernel) rfl) pa_nil))) pa_nil))) (pe_one (pe_callB (cAll K rfl rfl) rfl (n_all T) (by decide +kernel) (pa_cons (pe_lc (own := [("one", 7)]) (g := gName 7) rfl sc_Procedure_init.nd (piList K rfl (pv 5)) (blkOk_by (own := [("one", 7)]) (N := N_Procedure_init) (sc := defScope s_Procedure_init) (by decide +kernel)) (fun _ _ _ _ _ => (pg_name (i := 7) sc_Procedure_init.nd rfl (.inl rfl))) (fun _ _ _ _ _ => pts_nil) (fun _ _ _ _ _ => (pcall c_is_way hr (by decide) rfl (pa_cons (pv 7) pa_nil)))) pa_nil)))) pa_nil)))
      (pss_cons (ps_if (pt_cmpR (inSq K rfl) pe_bl (pv 6) (by rfl)) (pss_one ps_never) pss_nil)
      (pss_cons (SlX.ps_sl (pv 0) (pe_fz (pe_dc (own := [("name", 8)]) (g := gName 8) rfl sc_Procedure_init.nd (piList K rfl (pe_callB (call_sortedD rfl) rfl (n_sorted T) (by decide +kernel) (pa_cons (pv 1) pa_nil))) (blkOk_by (own := [("name", 8)]) (N := N_Procedure_init) (sc := defScope s_Procedure_init) (by decide +kernel)) (fun _ _ _ _ _ => (pg_name (i := 8) sc_Procedure_init.nd rfl (.inl rfl))) (fun _ _ _ _ _ => pts_nil) (fun _ _ _ _ _ => (pv 8)) (fun _ _ _ _ _ => (pe_dget (hu_of hr) (pv 1) (pv 8) (fun _ _ => rfl))))))
      (pss_cons (ps_asg (pe_tup (pa_cons (pe_callTy (cTup K rfl) rfl (n_tuple T) (by decide +kernel) (pa_cons (pv 2) pa_nil)) (pa_cons (pe_callTy (cTup K rfl) rfl (n_tuple T) (by decide +kernel) (pa_cons (pv 3) pa_nil)) pa_nil))) (pgTup (n := 2) K rfl rfl (pgs_cons (pg_slX (pv 0)) (pgs_cons (pg_slX (pv 0)) pgs_nil))))
      (pss_cons (SlX.ps_sl (pv 0) (pv 4))
      (pss_cons (SlX.ps_sl (pv 0) (pe_fz (pe_lc (own := [("one", 7)]) (g := gName 7) rfl sc_Procedure_init.nd (piList K rfl (pv 5)) (blkOk_by (own := [("one", 7)]) (N := N_Procedure_init) (sc := defScope s_Procedure_init) (by decide +kernel)) (fun _ _ _ _ _ => (pg_name (i := 7) sc_Procedure_init.nd rfl (.inl rfl))) (fun _ _ _ _ _ => pts_nil) (fun _ _ _ _ _ => (pe_tup (pa_cons (pe_ix (ixT K rfl) (pv 7) pe_int (fun _ _ => rfl)) (pa_cons (pe_ix (ixT K rfl) (pv 7) pe_int (fun _ _ => rfl)) (pa_cons (pcall c_frozen hr (by decide) rfl (pa_cons (pe_ix (ixT K rfl) (pv 7) pe_int (fun _ _ => rfl)) pa_nil)) pa_nil))))))))
      (pss_cons (ps_expr (pmethS0 c_Procedure_need_names hr (by decide) (pv 0)))
      (pss_cons (ps_expr (pmethS0 c_Procedure_need_places hr (by decide) (pv 0)))
      (pss_one (ps_expr (pmethS0 c_Procedure_need_kinds hr (by decide) (pv 0))))))))))))), ?_⟩
  -- rights
  have kk : ∀ z ∈ ks, IsKd z.2 := fun z hz => by
    have h1 : z.1 ∈ keys ks := List.mem_map.mpr ⟨z, hz, rfl⟩
    have h2 : lk ks z.1 = some z.2 := lk_of_mem wk.nd hz
    have h3 : (z.1, kindIn ks z.1) ∈ sortK ks := List.mem_map.mpr ⟨z.1, mem_srt.mpr h1, rfl⟩
    have h4 := ok.kk _ h3
    have h5 : kindIn ks z.1 = z.2 := by unfold kindIn; rw [h2]; rfl
    rw [h5] at h4
    exact h4
  have hrv : ∃ b : Addr, rv = .ref b ∧ H b = some (.tup (rs.map V.str)) := by
    obtain ⟨b, ys, e, h, p⟩ := hr'
    exact ⟨b, e, by rw [h, strs_of p]⟩
  obtain ⟨rb, erv, hrb⟩ := hrv
  subst erv
  refine ⟨_, rfl, _, ks, rfl, hk, wk, fun z hz => ok.nm z ((hkm z).mpr hz), kk, fun H1 s1 => ?_⟩
  refine ⟨_, rfl, a, ps, rfl, ⟨_, .inl rfl, s1 _ _ ha⟩, by have := ok.ps.2.1; exact Nat.le_trans this (by decide), ok.ps.1, fun z hz => ok.nm z (ok.ps.2.2 z hz), fun H2 s2 => ?_⟩
  refine ⟨_, rfl, rb, rs, rfl, ⟨_, .inr (.inr rfl), s2 _ _ (s1 _ _ hrb)⟩, by have := ok.rs.2.1; exact Nat.le_trans this (by decide), ok.rs.1, fun z hz => ok.nm z (ok.rs.2.2 z hz), fun H3 s3 => ?_⟩
  have sA : Same H H3 := s1.trans (s2.trans s3)
  refine ⟨_, rfl, size, rfl, true, rfl, iteT ⟨_, rfl, _, _, rfl, rfl, ?_⟩⟩
  have hsz : (1 : Int) ≤ size := ok.sz
  refine ⟨ln4, fun L hL => ?_⟩
  have sB : Same H (upd H3 L (.lst [V.bl true, V.bl true, V.bl true, V.bl (decide ((1 : Int) ≤ size))])) := sA.trans (same_new hL)
  refine ⟨_, rfl, .inl ⟨rfl, _, .inl (.inl upd_same)⟩, ?_⟩
  refine ⟨_, rfl, ln2, fun t ht => ?_⟩
  have sC := sB.trans (same_new (o := .tup [V.ty "list", V.ty "tuple"]) ht)
  obtain ⟨ty, g1, g2⟩ := lt_any (K := K) (xs := xs) ⟨_, .inl rfl, sC _ _ hc⟩
  have hLt := same_new (o := .tup [V.ty "list", V.ty "tuple"]) ht _ _ upd_same
  refine ⟨_, _, _, _, _, _, rfl, upd_same, lt_cls, g1, g2, true, rfl, iteT ?_⟩
  refine ⟨_, rfl, c, rfl, ⟨xs, .inl (.inl (sC _ _ hc))⟩, fun D hD => ?_⟩
  refine lc_m (wd_list pw) none rBl (fun _ => true) hD (go_refl _) (fun H' g => .inl (.inl (g _ _ (sC _ _ hc)))) (sz1000 (by have := ok.wl; exact Nat.le_trans this (by decide))) (fun z v H1' H' L' hz go y fin => ?_) fun H4 acc go hD2 pa => ?_
  · obtain ⟨rfl, rz⟩ := y
    have hz2 := ok.ws z hz
    exact ⟨rfl, yes ⟨_, rfl, _, z, rfl, mo (kp_of (sC.trans go)) rz, hz2.1.1, hz2.2.1.1, hz2.2.2.1, fun H2' s2' => fin _ _ s2' rfl⟩⟩
  refine ⟨D, _, rfl, alls hD2 pa, ?_⟩
  rw [all_true]
  have sD : Same H H4 := sC.trans go
  have hL4 := go _ _ hLt
  have hLn : H L = none := Same.free sA hL
  refine ⟨L, _, _, rfl, rfl, hL4, by show 4 < sizeLine; decide, ?_⟩
  have sE : Same H (upd H4 L (.lst ([V.bl true, V.bl true, V.bl true, V.bl (decide ((1 : Int) ≤ size))] ++ [V.bl true]))) := Same.mut sD hLn
  generalize hHE : upd H4 L (.lst ([V.bl true, V.bl true, V.bl true, V.bl (decide ((1 : Int) ≤ size))] ++ [V.bl true])) = HE at sE
  have hLE : HE L = some (.lst ([V.bl true, V.bl true, V.bl true, V.bl (decide ((1 : Int) ≤ size))] ++ [V.bl true])) := by rw [← hHE, upd_same]
  refine ⟨_, rfl, L, _, rfl, .inl (.inl (.inl hLE)), rfl, rfl, false, by rw [decide_eq_true hsz]; rfl, iteF ?_⟩
  -- held_kinds
  obtain ⟨kd0, kod, kkvs, rfl, hkd, kdp⟩ := mo (kp_of sE) hk
  refine ⟨_, rfl, kd0, kkvs, keys ks, rfl, .inr ⟨kod, hkd⟩, kdp.keys, by unfold keys; rw [List.length_map]; have := wk.len; omega, fun ys p hpm hso hp => ?_⟩
  have s5 : Same HE (upd HE p (.lst (ys.map V.str))) := same_new hp
  refine ⟨p, rfl, ⟨_, .inl (.inl upd_same)⟩, fun D5 hD5 => ?_⟩
  have ey := srt_eq hpm hso
  refine dc_m (wd_list (of_strs (H := H) ys)) none rStr (fun z => z) (fun z => kindIn ks z) hD5 (go_refl _) (fun H' g => .inl (.inl (g _ _ upd_same))) (sz1000 (by rw [hpm.length_eq]; unfold keys; rw [List.length_map]; have := wk.len; omega)) (fun z v H2' H' L' hz go y fin => ?_) fun H6 kvs2 go6 hD6 dp6 => ?_
  · obtain ⟨rfl, rfl⟩ := y
    obtain ⟨kz, ekz⟩ := lk_some (hpm.mem_iff.mp hz)
    obtain ⟨v9, ev9, rfl⟩ := kdp.some ekz
    refine ⟨rfl, yes ⟨_, rfl, _, rfl, _, rfl, kd0, _, rfl, dgR (.inr ⟨kod, go _ _ (s5 _ _ hkd)⟩) ev9, fin _ _ (go_refl _) ?_⟩⟩
    show V.str kz = V.str _
    unfold kindIn
    rw [ekz]
    rfl
  refine ⟨D5, _, rfl, hD6, trivial, fun od5 => ?_⟩
  have hD5n : H D5 = none := Same.free (sE.trans s5) hD5
  have sF : Same H (upd H6 D5 (.frz od5 (.dK kvs2))) := Same.mut (sE.trans (Same.trans s5 go6)) hD5n
  have k6 : Keep H6 (upd H6 D5 (.frz od5 (.dK kvs2))) := kp_mut hD6 (fun z => z)
  have rk : rDic rStr (upd H6 D5 (.frz od5 (.dK kvs2))) (.ref D5) (sortK ks) := by
    refine ⟨D5, od5, kvs2, rfl, upd_same, ?_⟩
    rw [nd_map, ey] at dp6
    · exact dp6.mono k6
    · rw [keys_self]; exact hpm.nodup_iff.mpr wk.nd
  generalize hHF : upd H6 D5 (.frz od5 (.dK kvs2)) = HF at sF rk
  have nax : a ≠ x := ne_of ha hx (fun z => nomatch z)
  have nad : a ≠ dx := ne_of ha hdx (fun z => nomatch z)
  have ncx : c ≠ x := ne_of hc hx (fun z => nomatch z)
  have ncd : c ≠ dx := ne_of hc hdx (fun z => nomatch z)
  have nbx : rb ≠ x := ne_of hrb hx (fun z => nomatch z)
  have nbd : rb ≠ dx := ne_of hrb hdx (fun z => nomatch z)
  have sl0 : SlX.Slt HF x (cP K) dx [] := .inl ⟨sF _ _ hx, rfl⟩
  have dn0 : ∃ o, HF dx = some o ∧ ¬ ImD o := ⟨_, sF _ _ hdx, fun z => z⟩
  refine ⟨_, rfl, x, _, dx, _, _, _, rfl, sl0, c_Procedure T, sl_held_kinds T, ?_⟩
  have sl1 : SlX.Slt (SlX.slH HF x (cP K) dx (SlX.putS 0 (.ref D5) [])) x (cP K) dx [some (.ref D5)] := SlX.slH_slt hne
  have kd1 : KeepD HF (SlX.slH HF x (cP K) dx (SlX.putS 0 (.ref D5) [])) := off_slH.keepD sl0 dn0
  have of1 : Off x dx H (SlX.slH HF x (cP K) dx (SlX.putS 0 (.ref D5) [])) := (off_of sF).trans off_slH
  have dn1 := slH_dx (H := HF) (C := cP K) (vs := SlX.putS 0 (.ref D5) []) hne
  generalize hH1 : SlX.slH HF x (cP K) dx (SlX.putS 0 (.ref D5) []) = G1 at sl1 kd1 of1 dn1
  -- params, results
  refine ⟨_, rfl, a, _, rfl, .inl ⟨.inl (.inl (of1 _ _ nax nad ha)), fun l hl => ?_⟩⟩
  have t1 : Same G1 (upd G1 l (.tup (ps.map V.str))) := same_new hl
  refine ⟨_, rfl, rb, _, rfl, .inr ⟨.inl (.inl (t1 _ _ (of1 _ _ nbx nbd hrb))), ?_⟩⟩
  refine ⟨ln2, fun t9 ht9 => ?_⟩
  have t2 : Same (upd G1 l (.tup (ps.map V.str))) (upd (upd G1 l (.tup (ps.map V.str))) t9 (.tup [V.ref l, V.ref rb])) := same_new ht9
  have t12 := Same.trans t1 t2
  have rp : rTup rStr (upd (upd G1 l (.tup (ps.map V.str))) t9 (.tup [V.ref l, V.ref rb])) (.ref l) ps := ⟨l, _, rfl, t2 _ _ upd_same, of_strs ps⟩
  have rr : rTup rStr (upd (upd G1 l (.tup (ps.map V.str))) t9 (.tup [V.ref l, V.ref rb])) (.ref rb) rs := ⟨rb, _, rfl, t12 _ _ (of1 _ _ nbx nbd hrb), of_strs rs⟩
  have rk2 : rDic rStr (upd (upd G1 l (.tup (ps.map V.str))) t9 (.tup [V.ref l, V.ref rb])) (.ref D5) (sortK ks) := mo (kp_of t12) (md kd1 rk)
  have ht9' : (upd (upd G1 l (.tup (ps.map V.str))) t9 (.tup [V.ref l, V.ref rb])) t9 = some (.tup [V.ref l, V.ref rb]) := upd_same
  have sl2 := slt_keep (kp_of t12) sl1
  have of2 : Off x dx H (upd (upd G1 l (.tup (ps.map V.str))) t9 (.tup [V.ref l, V.ref rb])) := of1.trans (off_of t12)
  have dn2 : ∃ o, (upd (upd G1 l (.tup (ps.map V.str))) t9 (.tup [V.ref l, V.ref rb])) dx = some o ∧ ¬ ImD o := let ⟨o, e, n⟩ := dn1; ⟨o, t12 _ _ e, n⟩
  generalize hH2 : upd (upd G1 l (.tup (ps.map V.str))) t9 (.tup [V.ref l, V.ref rb]) = G2 at rp rr rk2 ht9' sl2 of2 dn2
  refine ⟨t9, _, rfl, .inl (.inl ht9'), rfl, _, _, rfl, ?_⟩
  refine ⟨_, rfl, x, _, dx, _, _, _, rfl, sl2, c_Procedure T, sl_held_params T, ?_⟩
  have sl3 : SlX.Slt (SlX.slH G2 x (cP K) dx (SlX.putS 1 (.ref l) [some (.ref D5)])) x (cP K) dx [some (.ref D5), some (.ref l)] := SlX.slH_slt hne
  have kd3 : KeepD G2 (SlX.slH G2 x (cP K) dx (SlX.putS 1 (.ref l) [some (.ref D5)])) := off_slH.keepD sl2 dn2
  have of3 := of2.trans (off_slH (H := G2) (x := x) (C := cP K) (dx := dx) (vs := SlX.putS 1 (.ref l) [some (.ref D5)]))
  have dn3 := slH_dx (H := G2) (C := cP K) (vs := SlX.putS 1 (.ref l) [some (.ref D5)]) hne
  generalize hH3 : SlX.slH G2 x (cP K) dx (SlX.putS 1 (.ref l) [some (.ref D5)]) = G3 at sl3 kd3 of3 dn3
  refine ⟨_, _, rfl, _, rfl, x, _, dx, _, _, _, rfl, sl3, c_Procedure T, sl_held_results T, rfl, ?_⟩
  have sl4 : SlX.Slt (SlX.slH G3 x (cP K) dx (SlX.putS 2 (.ref rb) [some (.ref D5), some (.ref l)])) x (cP K) dx [some (.ref D5), some (.ref l), some (.ref rb)] := SlX.slH_slt hne
  have kd4 : KeepD G3 (SlX.slH G3 x (cP K) dx (SlX.putS 2 (.ref rb) [some (.ref D5), some (.ref l)])) := off_slH.keepD sl3 dn3
  have of4 := of3.trans (off_slH (H := G3) (x := x) (C := cP K) (dx := dx) (vs := SlX.putS 2 (.ref rb) [some (.ref D5), some (.ref l)]))
  have dn4 := slH_dx (H := G3) (C := cP K) (vs := SlX.putS 2 (.ref rb) [some (.ref D5), some (.ref l)]) hne
  generalize hH4 : SlX.slH G3 x (cP K) dx (SlX.putS 2 (.ref rb) [some (.ref D5), some (.ref l)]) = G4 at sl4 kd4 of4 dn4
  -- size
  refine ⟨_, rfl, _, rfl, x, _, dx, _, _, _, rfl, sl4, c_Procedure T, sl_held_size T, ?_⟩
  have sl5 : SlX.Slt (SlX.slH G4 x (cP K) dx (SlX.putS 3 (.int size) [some (.ref D5), some (.ref l), some (.ref rb)])) x (cP K) dx [some (.ref D5), some (.ref l), some (.ref rb), some (.int size)] := SlX.slH_slt hne
  have kd5 : KeepD G4 (SlX.slH G4 x (cP K) dx (SlX.putS 3 (.int size) [some (.ref D5), some (.ref l), some (.ref rb)])) := off_slH.keepD sl4 dn4
  have of5 := of4.trans (off_slH (H := G4) (x := x) (C := cP K) (dx := dx) (vs := SlX.putS 3 (.int size) [some (.ref D5), some (.ref l), some (.ref rb)]))
  have dn5 := slH_dx (H := G4) (C := cP K) (vs := SlX.putS 3 (.int size) [some (.ref D5), some (.ref l), some (.ref rb)]) hne
  generalize hH5 : SlX.slH G4 x (cP K) dx (SlX.putS 3 (.int size) [some (.ref D5), some (.ref l), some (.ref rb)]) = G5 at sl5 kd5 of5 dn5
  have pw5 : Paired (rWy G5) xs ws := mds (of5.keepD (vs := []) (.inl ⟨hx, rfl⟩) ⟨_, hdx, fun z => z⟩) pw
  -- ways
  refine ⟨_, rfl, c, rfl, ⟨xs, .inl (.inl (of5 _ _ ncx ncd hc))⟩, fun D7 hD7 => ?_⟩
  refine lc_m (wd_list pw5) none rWy (fun z => z) hD7 (go_refl _) (fun H' g => .inl (.inl (g _ _ (of5 _ _ ncx ncd hc)))) (sz1000 (by have := ok.wl; exact Nat.le_trans this (by decide))) (fun z v H1' H' L' hz go y fin => ?_) fun G6 acc6 go6 hD7' pa6 => ?_
  · obtain ⟨rfl, rz⟩ := y
    obtain ⟨b7, u7, rfl, hb7, hu7⟩ := mo (kp_of go) rz
    refine ⟨rfl, yes ⟨_, rfl, _, _, _, _, rfl, rfl, .inl (.inl hb7), at0, _, rfl, _, _, _, _, rfl, rfl, .inl (.inl hb7), at1, _, rfl, _, _, _, _, rfl, rfl, .inl (.inl hb7), at2, _, z.s, rfl, hu7, fun v8 H8 s8 hr8 => ⟨ln3, fun t8 ht8 => ?_⟩⟩⟩
    exact fin _ _ (Same.trans s8 (same_new ht8)) ⟨t8, v8, rfl, upd_same, mo (kp_new ht8) hr8⟩
  refine ⟨D7, _, rfl, hD7', trivial, fun od7 => ?_⟩
  have t7 : Same G5 (upd G6 D7 (.frz od7 (.lst acc6))) := Same.mut go6 hD7
  have rw7 : rLst rWy (upd G6 D7 (.frz od7 (.lst acc6))) (.ref D7) ws := ⟨D7, od7, acc6, rfl, upd_same, by rw [List.map_id'] at pa6; exact mos (kp_mut hD7' (fun z => z)) pa6⟩
  have sl7 := slt_keep (kp_of t7) sl5
  have dn7 : ∃ o, (upd G6 D7 (.frz od7 (.lst acc6))) dx = some o ∧ ¬ ImD o := let ⟨o, e, n⟩ := dn5; ⟨o, t7 _ _ e, n⟩
  have of7 : Off x dx H (upd G6 D7 (.frz od7 (.lst acc6))) := of5.trans (off_of t7)
  generalize hH7 : upd G6 D7 (.frz od7 (.lst acc6)) = G7 at t7 rw7 sl7 dn7 of7
  refine ⟨_, rfl, x, _, dx, _, _, _, rfl, sl7, c_Procedure T, sl_held_ways T, ?_⟩
  have sl8 : SlX.Slt (SlX.slH G7 x (cP K) dx (SlX.putS 4 (.ref D7) [some (.ref D5), some (.ref l), some (.ref rb), some (.int size)])) x (cP K) dx [some (.ref D5), some (.ref l), some (.ref rb), some (.int size), some (.ref D7)] := SlX.slH_slt hne
  have kd8 : KeepD G7 (SlX.slH G7 x (cP K) dx (SlX.putS 4 (.ref D7) [some (.ref D5), some (.ref l), some (.ref rb), some (.int size)])) := off_slH.keepD sl7 dn7
  have of8 := of7.trans (off_slH (H := G7) (x := x) (C := cP K) (dx := dx) (vs := SlX.putS 4 (.ref D7) [some (.ref D5), some (.ref l), some (.ref rb), some (.int size)]))
  generalize hH8 : SlX.slH G7 x (cP K) dx (SlX.putS 4 (.ref D7) [some (.ref D5), some (.ref l), some (.ref rb), some (.int size)]) = G8 at sl8 kd8 of8
  have up2 : KeepD G2 G8 := fun b o i e => kd8 b o i (t7 b o (kd5 b o i (kd4 b o i (kd3 b o i e))))
  have hpr : PrAt K G8 x ⟨sortK ks, ps, rs, size, ws⟩ := ⟨dx, _, _, _, _, sl8, md up2 rk2, md up2 rp, md up2 rr, md kd8 rw7⟩
  refine ⟨_, rfl, x, dx, _, rfl, sl8, _, _, rfl, ⟨x, rfl, hpr⟩, ok, fun N1 n1 => ?_⟩
  refine ⟨_, rfl, x, dx, _, rfl, slt_keep (kp_of n1) sl8, _, _, rfl, ⟨x, rfl, hpr.mono (kp_of n1)⟩, ok, fun N2 n2 => ?_⟩
  have n12 := n1.trans n2
  refine ⟨_, rfl, x, dx, _, rfl, slt_keep (kp_of n12) sl8, _, _, rfl, ⟨x, rfl, hpr.mono (kp_of n12)⟩, ok, fun N3 n3 => ?_⟩
  have n123 := n12.trans n3
  exact q _ (of8.trans (off_of n123)) (hpr.mono (kp_of n123))
end Fp

/-! ## FpProg -/
set_option Elab.async false
set_option linter.all false
set_option maxRecDepth 100000
set_option maxHeartbeats 2000000
namespace Fp
open PySem PySem.Spec PyProof.Rows L2
variable {P : Program} {w : World} {K : PySem.W.Frag} {mg : Str → Option Value} {base : Heap}
/-! ### are_procedures -/
/-- slots: 0 thing*, 1 name -/
abbrev N_are_procedures : List Str := [Str.ofString "thing", Str.ofString "name"]
theorem sc_are_procedures : FnScope N_are_procedures [Str.ofString "thing"] (defScope s_are_procedures) := ⟨rfl, rfl, rfl, by decide +kernel, rfl, by decide +kernel, by decide +kernel⟩
def S_are_procedures (K : PySem.W.Frag) : Sq := fun vs H Q => ∃ (v : V) (pg : Pg), vs = [v] ∧ rDic (rPr K) H v pg ∧ (keys pg).Nodup ∧ pg.length ≤ 8 ∧ pg ≠ [] ∧ (∀ x ∈ keys pg, IsNm x) ∧ ∀ H', Same H H' → Q (.bl true) H'
theorem r_are_procedures (T : Tx K mg) (c_is_name : Cal P w K mg base 1 "is_name" S_is_name) : FnR P w K mg base CX0 2 (a_are_procedures K) (sp (S_are_procedures K)) := by
  refine fr_of (S := (S_are_procedures K)) (N := N_are_procedures) (f_are_procedures T) sc_are_procedures (fun vs H Q h => by first | (obtain ⟨rfl, _⟩ := h; rfl) | (obtain ⟨_, rfl, _⟩ := h; rfl) | (obtain ⟨_, _, rfl, _⟩ := h; rfl) | (obtain ⟨_, _, _, rfl, _⟩ := h; rfl) | (obtain ⟨_, _, _, _, rfl, _⟩ := h; rfl) | (obtain ⟨_, _, _, _, _, rfl, _⟩ := h; rfl) | (obtain ⟨_, _, _, _, _, _, rfl, _⟩ := h; rfl) | (obtain ⟨_, _, _, _, _, _, _, rfl, _⟩ := h; rfl) | (obtain ⟨_, _, _, _, _, _, _, _, rfl, _⟩ := h; rfl) | (obtain ⟨_, _, _, _, _, _, _, _, _, rfl, _⟩ := h; rfl) | (obtain ⟨_, _, _, _, _, _, _, _, _, _, rfl, _⟩ := h; rfl) | (obtain ⟨_, _, _, _, _, _, _, _, _, _, _, rfl, _⟩ := h; rfl) | (obtain ⟨_, _, _, _, _, _, _, _, _, _, _, _, rfl, _⟩ := h; rfl) | (obtain ⟨_, _, _, _, _, _, _, _, _, _, _, _, _, rfl, _⟩ := h; rfl) | (obtain ⟨_, _, _, _, _, _, _, _, _, _, _, _, _, _, rfl, _⟩ := h; rfl) | (obtain ⟨_, _, _, _, _, _, _, _, _, _, _, _, _, _, _, rfl, _⟩ := h; rfl) | (obtain ⟨_, _, _, _, _, _, _, _, _, _, _, _, _, _, _, _, rfl, _⟩ := h; rfl)) (fun _ _ _ _ _ _ us hl => match us, hl with | [_], _ => rfl) (fun cdv A outer s H vs Q E hr h => ?_)
  obtain ⟨v, pg, rfl, ⟨a, od, kvs, rfl, ha, dp⟩, nd, hl, hne, hn, q⟩ := h
  refine ⟨_, (pss_cons (ps_if (PW.pt (pw_or (pt_not (pt_val (pe_callB (cIsi K rfl) rfl (n_isinstance T) (by decide +kernel) (pa_cons (pv 0) (pa_cons (pe_bltn (v := .ty "dict") rfl (n_dict T) (by decide +kernel) rfl) pa_nil))))) (pw_or1 (pt_cmpR op_eq (pe_callB call_lenDR rfl (n_len T) (by decide +kernel) (pa_cons (pv 0) pa_nil)) pe_int (nomark _))))) (pss_one (ps_ret pe_bl)) pss_nil)
      (pss_one (ps_ret (pe_callB (cAll K rfl rfl) rfl (n_all T) (by decide +kernel) (pa_cons (pe_lc (own := [("name", 1)]) (g := gName 1) rfl sc_are_procedures.nd (pi_keys (pv 0)) (blkOk_by (own := [("name", 1)]) (N := N_are_procedures) (sc := defScope s_are_procedures) (by decide +kernel)) (fun _ _ _ _ _ => (pg_name (i := 1) sc_are_procedures.nd rfl (.inl rfl))) (fun _ _ _ _ _ => pts_nil) (fun _ _ _ _ _ => (pe_and (pcall c_is_name hr (by decide) rfl (pa_cons (pv 1) pa_nil)) (pe_one (pe_callB (cIsP K rfl (He.ga K "Procedure")) rfl (n_isinstance T) (by decide +kernel) (pa_cons (pe_dget (hu_of hr) (pv 0) (pv 1) (fun _ _ => rfl)) (pa_cons (pe_glob (v := .ref (He.ga K "Procedure")) rfl (g_Procedure T) rfl) pa_nil))))))) pa_nil))))), ?_⟩
  refine ⟨_, rfl, _, _, _, _, _, rfl, .ty _, ty_dic (.inr ⟨od, ha⟩), kt_dd, true, rfl, iteF ?_⟩
  have hlen : kvs.length ≠ 0 := by
    rw [dp.len]
    intro e
    exact hne (List.length_eq_zero_iff.mp e)
  refine ⟨_, rfl, a, kvs, rfl, .inr ⟨od, ha⟩, rfl, false, bF (fun z => hlen (by have := V.int.inj z; omega)), iteF ?_⟩
  refine ⟨_, rfl, a, od, rfl, .inl ⟨kvs, ha, fun D hD => ?_⟩⟩
  refine lc_m (wd_keys dp) none rBl (fun _ => true) hD (go_refl _) (fun H' g => g _ _ ha) (sz1000 (by omega)) (fun p v H1 H' L hp go y fin => ?_) fun H3 acc go hD2 pa => ?_
  · obtain ⟨rfl, rfl⟩ := y
    have hm : p.1 ∈ keys pg := List.mem_map.mpr ⟨p, hp, rfl⟩
    obtain ⟨v2, ev, b, rfl, dx, k, u, r, w1, hs, _⟩ := dp.some (lk_of_mem nd (k := p.1) (v := p.2) hp)
    refine ⟨rfl, yes ⟨_, rfl, p.1, rfl, hn _ hm, fun H2 s2 => ⟨true, rfl, iteT ⟨_, rfl, _, rfl, a, _, rfl, dgR (.inr ⟨od, s2 _ _ (go _ _ ha)⟩) ev, b, dx, _, rfl, slt_keep (kp_of (Same.trans go s2)) hs, c_Procedure T, (i_Procedure T).1, (i_Procedure T).2, fin _ _ s2 rfl⟩⟩⟩⟩
  · refine ⟨D, _, rfl, alls hD2 pa, ?_⟩
    rw [all_true]
    exact q _ go
/-! ### calls -/
/-- slots: 0 procedure, 1 found, 2 index, 3 way -/
abbrev N_calls : List Str := [Str.ofString "procedure", Str.ofString "found", Str.ofString "index", Str.ofString "way"]
theorem sc_calls : FnScope N_calls [Str.ofString "procedure"] (defScope s_calls) := ⟨rfl, rfl, rfl, by decide +kernel, rfl, by decide +kernel, by decide +kernel⟩
def rCall : Rep (Nat × Sm) := fun H v x => ∃ a u, v = .ref a ∧ H a = some (.tup [.int (x.1 : Nat), u]) ∧ rSm H u x.2
instance : Mono rCall := ⟨fun k ⟨a, u, e, h, p⟩ => ⟨a, u, e, k _ _ trivial h, mo k p⟩⟩
def S_calls (K : PySem.W.Frag) : Sq := fun vs H Q => ∃ (v : V) (p : Pr), vs = [v] ∧ rPr K H v p ∧ p.ways.length ≤ 60 ∧ ∀ v' (L : List (Nat × Sm)) H', Same H H' → rLst rCall H' v' L → (∀ x ∈ L, isCall x.2 = true ∧ ∃ y ∈ p.ways, y.s = x.2) → Q v' H'
theorem r_calls (T : Tx K mg) (c_Procedure_ways : CalS P w K mg base 1 (cP K) "ways" (S_Procedure_ways K)) : FnR P w K mg base CX0 2 (a_calls K) (sp (S_calls K)) := by
  refine fr_of (S := (S_calls K)) (N := N_calls) (f_calls T) sc_calls (fun vs H Q h => by first | (obtain ⟨rfl, _⟩ := h; rfl) | (obtain ⟨_, rfl, _⟩ := h; rfl) | (obtain ⟨_, _, rfl, _⟩ := h; rfl) | (obtain ⟨_, _, _, rfl, _⟩ := h; rfl) | (obtain ⟨_, _, _, _, rfl, _⟩ := h; rfl) | (obtain ⟨_, _, _, _, _, rfl, _⟩ := h; rfl) | (obtain ⟨_, _, _, _, _, _, rfl, _⟩ := h; rfl) | (obtain ⟨_, _, _, _, _, _, _, rfl, _⟩ := h; rfl) | (obtain ⟨_, _, _, _, _, _, _, _, rfl, _⟩ := h; rfl) | (obtain ⟨_, _, _, _, _, _, _, _, _, rfl, _⟩ := h; rfl) | (obtain ⟨_, _, _, _, _, _, _, _, _, _, rfl, _⟩ := h; rfl) | (obtain ⟨_, _, _, _, _, _, _, _, _, _, _, rfl, _⟩ := h; rfl) | (obtain ⟨_, _, _, _, _, _, _, _, _, _, _, _, rfl, _⟩ := h; rfl) | (obtain ⟨_, _, _, _, _, _, _, _, _, _, _, _, _, rfl, _⟩ := h; rfl) | (obtain ⟨_, _, _, _, _, _, _, _, _, _, _, _, _, _, rfl, _⟩ := h; rfl) | (obtain ⟨_, _, _, _, _, _, _, _, _, _, _, _, _, _, _, rfl, _⟩ := h; rfl) | (obtain ⟨_, _, _, _, _, _, _, _, _, _, _, _, _, _, _, _, rfl, _⟩ := h; rfl)) (fun _ _ _ _ _ _ us hl => match us, hl with | [_], _ => rfl) (fun cdv A outer s H vs Q E hr h => ?_)
  obtain ⟨v, p, rfl, hp, hwl, q⟩ := h
  obtain ⟨a, rfl, dx, k, u, r, w1, hs, _⟩ := id hp
  refine ⟨_, (pss_cons (ps_set (i := 1) sc_calls.nd rfl (.inl rfl) (pe_lst pa_nil))
      (pss_cons (ps_for PassesOwn.never rfl (pi_enum rfl (n_enumerate T) (pa_cons (pmethS0 c_Procedure_ways hr (by decide) (pv 0)) pa_nil)) (pgTup (n := 2) K rfl rfl (pgs_cons (pg_name (i := 2) sc_calls.nd rfl (.inl rfl)) (pgs_cons (pg_name (i := 3) sc_calls.nd rfl (.inl rfl)) pgs_nil))) (pss_one (ps_if (pt_cmpR op_eq (pe_ix (ixT K rfl) (pe_ix (ixT K rfl) (pv 3) pe_int (fun _ _ => rfl)) pe_int (fun _ _ => rfl)) pe_str (nomark _)) (pss_one (ps_expr (pe_bm PySem.F.plainAttrs_list PySem.F.slot_list_append PySem.F.type_list_append mt_append (pv 1) (pa_cons (pe_tup (pa_cons (pv 2) (pa_cons (pe_ix (ixT K rfl) (pv 3) pe_int (fun _ _ => rfl)) pa_nil))) pa_nil)))) pss_nil)))
      (pss_one (ps_ret (pe_fz (pv 1)))))), ?_⟩
  refine ⟨Nat.zero_le _, fun f hfn => ?_⟩
  have s0 : Same H (upd H f (.lst [])) := same_new hfn
  refine ⟨_, rfl, a, dx, _, rfl, slt_keep (kp_of s0) hs, _, p, rfl, mo (kp_of s0) hp, fun v1 H1 s1 ⟨b, od, xs, e, hb, pb⟩ => ?_⟩
  subst e
  refine ⟨b, xs, rfl, .inl (.inr ⟨_, hb⟩), ?_⟩
  have hyw : ∀ (x : Wy × Nat), x ∈ p.ways.zipIdx → x.1 ∈ p.ways := fun x hx => by
    have := List.mem_zipIdx hx
    rw [this.2.2]
    exact List.getElem_mem _
  refine for_d (wd_enum pb) (fun (d : List (Wy × Nat)) (σ : L2.St) (H' : Hp) => ∃ y2 y3, σ = [some (V.ref a), some (V.ref f), y2, y3] ∧ Same H H' ∧ Keep H1 H' ∧ ∃ (acc : List V) (L : List (Nat × Sm)), H' f = some (.lst acc) ∧ Paired (rCall H') acc L ∧ L.length ≤ d.length ∧ ∀ x ∈ L, isCall x.2 = true ∧ ∃ y ∈ p.ways, y.s = x.2) ?_ ?_ ?_ ?_
  · exact ⟨none, none, rfl, s0.trans s1, Keep.refl _, [], [], s1 _ _ upd_same, .nil, Nat.le_refl _, fun x hx => absurd hx (List.not_mem_nil)⟩
  · rintro d σ H' ⟨_, _, _, _, k1, _⟩
    exact .inl (.inr ⟨_, k1 _ _ trivial hb⟩)
  · rintro d x rr z σ H2 H' el ⟨y2, y3, rfl, s, k1, acc, L, hf, pL, hL, hLc⟩ ⟨t, y, rfl, ht, rfl, hy⟩
    have st : Same H2 (upd H2 t (.tup [V.int (x.2 : Nat), y])) := same_new ht
    obtain ⟨b2, u2, rfl, hb2, hu2⟩ := mo (k1.trans (kp_of st)) hy
    obtain ⟨sa, rest, rfl, hsa⟩ := hu2.head
    have hmem : x ∈ p.ways.zipIdx := by rw [el]; simp
    have hxw : x.1 ∈ p.ways := hyw x hmem
    refine ⟨t, _, rfl, .inl (.inl upd_same), rfl, _, _, rfl, _, _, rfl, rfl, ?_⟩
    refine ⟨_, rfl, _, _, _, _, rfl, rfl, .inl (.inl hb2), at2, _, _, _, _, rfl, rfl, .inl (.inl hsa), at0, rfl, ?_⟩
    by_cases e : wordOf x.1.s = "call"
    · have hc : isCall x.1.s = true := by
        cases hx : x.1.s with
        | skip => rw [hx] at e; exact absurd e wo_kc
        | sets xs => rw [hx] at e; exact absurd e (wo_sc xs)
        | mx hi z ps => rw [hx] at e; exact absurd e (wo_mc hi z ps)
        | call g as rs => rfl
      refine ⟨true, sT e, iteT ?_⟩
      have hf2 := st _ _ hf
      refine ⟨_, rfl, .inl ⟨rfl, _, .inl (.inl hf2)⟩, _, rfl, _, rfl, _, _, _, _, rfl, rfl, .inl (.inl hb2), at2, ln2, fun t2 ht2 => ?_⟩
      have st2 : Same (upd H2 t (.tup [V.int (x.2 : Nat), .ref b2])) (upd (upd H2 t (.tup [V.int (x.2 : Nat), .ref b2])) t2 (.tup [V.int (x.2 : Nat), V.ref sa])) := same_new ht2
      have hf3 := st2 _ _ hf2
      have hl60 : L.length ≤ 60 := by
        have h1 : d.length ≤ p.ways.zipIdx.length := by rw [el, List.length_append]; omega
        rw [List.length_zipIdx] at h1
        omega
      refine ⟨f, acc, _, rfl, rfl, hf3, by rw [Paired.length pL]; exact big (by omega), ?_⟩
      have k4 : Keep _ (upd (upd (upd H2 t (.tup [V.int (x.2 : Nat), .ref b2])) t2 (.tup [V.int (x.2 : Nat), V.ref sa])) f (.lst (acc ++ [V.ref t2]))) := kp_mut hf3 (fun z => z)
      have k5 := (kp_of (Same.trans st st2)).trans k4
      refine ⟨_, _, rfl, Same.mut (s.trans (Same.trans st st2)) hfn, k1.trans k5, _, L ++ [(x.2, x.1.s)], upd_same, Paired.app (mos k5 pL) (.cons ⟨t2, _, rfl, k4 _ _ trivial upd_same, mo ((kp_of st2).trans k4) hu2⟩ .nil), ?_, fun z hz => ?_⟩
      · simp only [List.length_append, List.length_singleton]; omega
      · rcases List.mem_append.mp hz with hz | hz
        · exact hLc z hz
        · rw [List.mem_singleton.mp hz]
          exact ⟨hc, x.1, hxw, rfl⟩
    · refine ⟨false, sF e, iteF ⟨_, _, rfl, s.trans st, k1.trans (kp_of st), acc, L, st _ _ hf, mos (kp_of st) pL, ?_, hLc⟩⟩
      simp only [List.length_append, List.length_singleton]; omega
  · rintro σ H2 ⟨y2, y3, rfl, s, k1, acc, L, hf, pL, hL, hLc⟩
    refine ⟨_, rfl, f, _, rfl, hf, trivial, fun od2 => ?_⟩
    exact q _ L _ (Same.mut s hfn) ⟨f, od2, acc, rfl, upd_same, mos (kp_mut hf (fun z => z)) pL⟩ hLc
/-! ### is_fit -/
/-- slots: 0 caller*, 1 called*, 2 statement, 3 part, 4 param, 5 one, 6 x -/
abbrev N_is_fit : List Str := [Str.ofString "caller", Str.ofString "called", Str.ofString "statement", Str.ofString "part", Str.ofString "param", Str.ofString "one", Str.ofString "x"]
theorem sc_is_fit : FnScope N_is_fit [Str.ofString "caller", Str.ofString "called", Str.ofString "statement"] (defScope s_is_fit) := ⟨rfl, rfl, rfl, by decide +kernel, rfl, by decide +kernel, by decide +kernel⟩
structure CallFit (p q : Pr) (as : List Part) (rs : List Str) : Prop where
  la : as.length = q.params.length
  lr : rs.length = q.results.length
  fa : ∀ x ∈ as.zip q.params, Fit (kd p.kinds x.1.1) (kd q.kinds x.2)
  fr : ∀ x ∈ q.results.zip rs, Fit (kd q.kinds x.1) (kd p.kinds x.2)
theorem fit_mem {a b : Str} (h : Fit a b) : a ∈ (["plain", b] : List Str) := by
  rcases h with e | e
  · rw [e]; exact List.mem_cons_self
  · rw [e]; exact List.mem_cons_of_mem _ List.mem_cons_self
def S_is_fit (K : PySem.W.Frag) : Sq := fun vs H Q => ∃ (v u x : V) (p q : Pr) (f : Str) (as : List Part) (rs : List Str), vs = [v, u, x] ∧ rPr K H v p ∧ rPr K H u q ∧ rSm H x (.call f as rs) ∧ OkPr p ∧ OkPr q ∧ SmIn (keys p.kinds) (.call f as rs) ∧ CallFit p q as rs ∧ ∀ H', Same H H' → Q (.bl true) H'
theorem r_is_fit (T : Tx K mg) (c_fits : Cal P w K mg base 1 "fits" S_fits) (c_Procedure_params : CalP P w K mg base 1 (cP K) "params" (S_Procedure_params K)) (c_Procedure_results : CalP P w K mg base 1 (cP K) "results" (S_Procedure_results K)) (c_Procedure_kind : CalS P w K mg base 1 (cP K) "kind" (S_Procedure_kind K)) :
    FnR P w K mg base CX0 3 (a_is_fit K) (sp (S_is_fit K)) := by
  refine fr_of (S := (S_is_fit K)) (N := N_is_fit) (f_is_fit T) sc_is_fit (fun vs H Q h => by first | (obtain ⟨rfl, _⟩ := h; rfl) | (obtain ⟨_, rfl, _⟩ := h; rfl) | (obtain ⟨_, _, rfl, _⟩ := h; rfl) | (obtain ⟨_, _, _, rfl, _⟩ := h; rfl) | (obtain ⟨_, _, _, _, rfl, _⟩ := h; rfl) | (obtain ⟨_, _, _, _, _, rfl, _⟩ := h; rfl) | (obtain ⟨_, _, _, _, _, _, rfl, _⟩ := h; rfl) | (obtain ⟨_, _, _, _, _, _, _, rfl, _⟩ := h; rfl) | (obtain ⟨_, _, _, _, _, _, _, _, rfl, _⟩ := h; rfl) | (obtain ⟨_, _, _, _, _, _, _, _, _, rfl, _⟩ := h; rfl) | (obtain ⟨_, _, _, _, _, _, _, _, _, _, rfl, _⟩ := h; rfl) | (obtain ⟨_, _, _, _, _, _, _, _, _, _, _, rfl, _⟩ := h; rfl) | (obtain ⟨_, _, _, _, _, _, _, _, _, _, _, _, rfl, _⟩ := h; rfl) | (obtain ⟨_, _, _, _, _, _, _, _, _, _, _, _, _, rfl, _⟩ := h; rfl) | (obtain ⟨_, _, _, _, _, _, _, _, _, _, _, _, _, _, rfl, _⟩ := h; rfl) | (obtain ⟨_, _, _, _, _, _, _, _, _, _, _, _, _, _, _, rfl, _⟩ := h; rfl) | (obtain ⟨_, _, _, _, _, _, _, _, _, _, _, _, _, _, _, _, rfl, _⟩ := h; rfl)) (fun _ _ _ _ _ _ us hl => match us, hl with | [_, _, _], _ => rfl) (fun cdv A outer s H vs Q E hr h => ?_)
  obtain ⟨v, u, x, p, q, f, as, rs, rfl, hp, hq, hx, okp, okq, sin, cf, post⟩ := h
  obtain ⟨pa, rfl, pdx, pk, pu, pr, pw, hps, _⟩ := id hp
  obtain ⟨qa, rfl, qdx, qk, qu, qr, qw, hqs, _⟩ := id hq
  obtain ⟨a, y, z, rfl, ha, ⟨b, ys, rfl, hb, pb⟩, ⟨c, zs, rfl, hc, pc⟩⟩ := id hx
  refine ⟨_, (pss_cons (ps_if (PW.pt (pw_or (pt_cmpR op_ne (pe_callB (cLen K rfl) rfl (n_len T) (by decide +kernel) (pa_cons (pe_ix (ixT K rfl) (pv 2) pe_int (fun _ _ => rfl)) pa_nil)) (pe_callB (cLen K rfl) rfl (n_len T) (by decide +kernel) (pa_cons (pprop c_Procedure_params hr (by decide) (pv 1)) pa_nil)) (nomark _)) (pw_or1 (pt_cmpR op_ne (pe_callB (cLen K rfl) rfl (n_len T) (by decide +kernel) (pa_cons (pe_ix (ixT K rfl) (pv 2) pe_int (fun _ _ => rfl)) pa_nil)) (pe_callB (cLen K rfl) rfl (n_len T) (by decide +kernel) (pa_cons (pprop c_Procedure_results hr (by decide) (pv 1)) pa_nil)) (nomark _))))) (pss_one (ps_ret pe_bl)) pss_nil)
      (pss_cons (ps_for PassesOwn.never rfl (RZ.pi_zipA rfl (n_zip T) (pa_cons (pe_ix (ixT K rfl) (pv 2) pe_int (fun _ _ => rfl)) (pa_cons (pprop c_Procedure_params hr (by decide) (pv 1)) pa_nil))) (pgTup (n := 2) K rfl rfl (pgs_cons (pg_name (i := 3) sc_is_fit.nd rfl (.inl rfl)) (pgs_cons (pg_name (i := 4) sc_is_fit.nd rfl (.inl rfl)) pgs_nil))) (pss_one (ps_if (pt_not (pt_val (pcall c_fits hr (by decide) rfl (pa_cons (pmethS c_Procedure_kind hr (by decide) (pv 0) (pa_cons (pe_ix (ixT K rfl) (pv 3) pe_int (fun _ _ => rfl)) pa_nil)) (pa_cons (pmethS c_Procedure_kind hr (by decide) (pv 1) (pa_cons (pv 4) pa_nil)) pa_nil))))) (pss_one (ps_ret pe_bl)) pss_nil)))
      (pss_one (ps_ret (pe_callB (cAll K rfl rfl) rfl (n_all T) (by decide +kernel) (pa_cons (pe_lc (own := [("one", 5), ("x", 6)]) rfl sc_is_fit.nd (RZ.pi_zipA rfl (n_zip T) (pa_cons (pprop c_Procedure_results hr (by decide) (pv 1)) (pa_cons (pe_ix (ixT K rfl) (pv 2) pe_int (fun _ _ => rfl)) pa_nil))) (blkOk_by (own := [("one", 5), ("x", 6)]) (N := N_is_fit) (sc := defScope s_is_fit) (by decide +kernel)) (fun _ _ _ _ _ => (pgTup (n := 2) K rfl rfl (pgs_cons (pg_name (i := 5) sc_is_fit.nd rfl (.inl rfl)) (pgs_cons (pg_name (i := 6) sc_is_fit.nd rfl (.inl rfl)) pgs_nil)))) (fun _ _ _ _ _ => pts_nil) (fun _ _ _ _ _ => (pcall c_fits hr (by decide) rfl (pa_cons (pmethS c_Procedure_kind hr (by decide) (pv 1) (pa_cons (pv 5) pa_nil)) (pa_cons (pmethS c_Procedure_kind hr (by decide) (pv 0) (pa_cons (pv 6) pa_nil)) pa_nil))))) pa_nil)))))), ?_⟩
  refine ⟨_, rfl, _, _, _, _, rfl, rfl, .inl (.inl ha), at2, _, _, rfl, .inr ⟨_, .inl (.inl hb), rfl⟩, ?_⟩
  refine ⟨_, rfl, qa, qdx, _, rfl, hqs, _, q, rfl, hq, fun v1 ⟨pp, pxs, e1, hpp, ppx⟩ => ?_⟩
  subst e1
  refine ⟨_, _, rfl, .inr ⟨_, .inl (.inl hpp), rfl⟩, rfl, false, nbF (by rw [Paired.length pb, Paired.length ppx, cf.la]), iteF ?_⟩
  refine ⟨_, rfl, _, _, _, _, rfl, rfl, .inl (.inl ha), at3, _, _, rfl, .inr ⟨_, .inl (.inl hc), rfl⟩, ?_⟩
  refine ⟨_, rfl, qa, qdx, _, rfl, hqs, _, q, rfl, hq, fun v2 ⟨pr2, prs, e2, hpr, prx⟩ => ?_⟩
  subst e2
  refine ⟨_, _, rfl, .inr ⟨_, .inl (.inl hpr), rfl⟩, rfl, false, nbF (by rw [Paired.length pc, Paired.length prx, cf.lr]), iteF ?_⟩
  refine ⟨_, rfl, _, _, _, _, rfl, rfl, .inl (.inl ha), at2, _, rfl, qa, qdx, _, rfl, hqs, _, q, rfl, hq, fun v3 ⟨pp3, pxs3, e3, hpp3, ppx3⟩ => ?_⟩
  subst e3
  refine ⟨b, pp3, ys, pxs3, rfl, .inr ⟨.inl (.inl hb), .inl (.inl hpp3), ?_⟩⟩
  refine for_d (wd_zipT pb ppx3) (fun (_ : List (Part × Str)) (σ : L2.St) (H' : Hp) => ∃ y3 y4, σ = [some (V.ref pa), some (V.ref qa), some (V.ref a), y3, y4, none, none] ∧ Same H H') ⟨_, _, rfl, Same.refl _⟩ ?_ ?_ ?_
  · rintro d σ H' ⟨_, _, _, s⟩
    exact ⟨.inl (.inl (s _ _ hb)), .inl (.inl (s _ _ hpp3))⟩
  · rintro d t r z2 σ H2 H' el ⟨y3, y4, rfl, s⟩ ⟨T2, u2, v2, rfl, hT, rfl, hu2, rfl⟩
    have st : Same H2 (upd H2 T2 (.tup [u2, V.str t.2])) := same_new hT
    have sA := s.trans st
    obtain ⟨c2, x1, x2, rfl, hc2, rfl, rfl⟩ := mo (kp_of sA) hu2
    have hmem : t ∈ as.zip q.params := by rw [el]; simp
    have hm2 := List.of_mem_zip (a := t.1) (b := t.2) hmem
    have hfit := cf.fa t hmem
    refine ⟨T2, _, rfl, .inl (.inl upd_same), rfl, _, _, rfl, _, _, rfl, rfl, ?_⟩
    refine ⟨_, rfl, pa, pdx, _, rfl, slt_keep (kp_of sA) hps, _, rfl, _, _, _, _, rfl, rfl, .inl (.inl hc2), at0, _, p, t.1.1, rfl, mo (kp_of sA) hp, sin.1 _ hm2.1, ?_⟩
    refine ⟨_, rfl, qa, qdx, _, rfl, slt_keep (kp_of sA) hqs, _, rfl, _, q, t.2, rfl, mo (kp_of sA) hq, .inr (okq.ps.2.2 _ hm2.2), ?_⟩
    refine ⟨_, _, rfl, fun H6 s6 => ⟨true, bT (fit_mem hfit), iteF ⟨_, _, rfl, sA.trans s6⟩⟩⟩
  · rintro σ H1 ⟨y3, y4, rfl, s⟩
    refine ⟨_, rfl, qa, qdx, _, rfl, slt_keep (kp_of s) hqs, _, q, rfl, mo (kp_of s) hq, fun v4 ⟨pr4, prs4, e4, hpr4, prx4⟩ => ?_⟩
    subst e4
    refine ⟨_, rfl, _, _, _, _, rfl, rfl, .inl (.inl (s _ _ ha)), at3, pr4, c, prs4, zs, rfl, .inr ⟨.inl (.inl hpr4), .inl (.inl (s _ _ hc)), fun D hD => ?_⟩⟩
    refine lc_m (wd_zipT prx4 pc) none rBl (fun _ => true) hD (go_refl _) (fun H' g => ⟨.inl (.inl (g _ _ hpr4)), .inl (.inl (g _ _ (s _ _ hc)))⟩) (sz1000 (by rw [List.length_zip]; have := okq.rs.2.1; omega)) (fun t v H1' H' L ht go y fin => ?_) fun H3 acc go hD2 pacc => ?_
    · obtain ⟨T2, u2, v2, rfl, hT, rfl, rfl, rfl⟩ := y
      have st : Same H1' (upd H1' T2 (.tup [V.str t.1, V.str t.2])) := same_new hT
      have sA := s.trans (Same.trans go st)
      have hm2 := List.of_mem_zip (a := t.1) (b := t.2) ht
      have hfit := cf.fr t ht
      refine ⟨_, _, rfl, .inl (.inl upd_same), rfl, _, _, rfl, _, _, rfl, rfl, rfl, yes ?_⟩
      refine ⟨_, rfl, qa, qdx, _, rfl, slt_keep (kp_of sA) hqs, _, rfl, _, q, t.1, rfl, mo (kp_of sA) hq, .inr (okq.rs.2.2 _ hm2.1), ?_⟩
      refine ⟨_, rfl, pa, pdx, _, rfl, slt_keep (kp_of sA) hps, _, rfl, _, p, t.2, rfl, mo (kp_of sA) hp, .inr (sin.2 _ hm2.2), ?_⟩
      refine ⟨_, _, rfl, fun H6 s6 => fin _ _ (Same.trans st s6) (bT (fit_mem hfit))⟩
    · refine ⟨D, _, rfl, alls hD2 pacc, ?_⟩
      rw [all_true]
      exact post _ (s.trans go)
end Fp

/-! ## FpProg2 -/
set_option Elab.async false
set_option linter.all false
set_option maxRecDepth 100000
set_option maxHeartbeats 2000000
namespace Fp
open PySem PySem.Spec PyProof.Rows L2
variable {P : Program} {w : World} {K : PySem.W.Frag} {mg : Str → Option Value} {base : Heap}
/-! ### a Program -/
def PgAt (K : PySem.W.Frag) (H : Hp) (a : Addr) (first : Str) (pg : Pg) : Prop := ∃ dx d, SlX.Slt H a (cG K) dx [some (.str first), some d] ∧ rDic (rPr K) H d pg
theorem PgAt.mono {H H' : Hp} {a : Addr} {f : Str} {pg : Pg} (k : Keep H H') (h : PgAt K H a f pg) : PgAt K H' a f pg := let ⟨dx, d, e, h1⟩ := h; ⟨dx, d, slt_keep k e, mo k h1⟩
def rPg (K : PySem.W.Frag) : Rep (Str × Pg) := fun H v x => ∃ a, v = .ref a ∧ PgAt K H a x.1 x.2
instance : Mono (rPg K) := ⟨fun k ⟨a, e, h⟩ => ⟨a, e, h.mono k⟩⟩
structure OkPg (pg : Pg) : Prop where
  nd : (keys pg).Nodup
  len : pg.length ≤ 8
  ne : pg ≠ []
  nm : ∀ x ∈ keys pg, IsNm x
  pr : ∀ x ∈ pg, OkPr x.2
  cl : ∀ x ∈ pg, ∀ y ∈ x.2.ways, ∀ f as rs, y.s = .call f as rs → ∃ q, lk pg f = some q ∧ CallFit x.2 q as rs
/-- slots: 0 self -/
abbrev N_Program_first : List Str := [Str.ofString "self"]
theorem sc_Program_first : FnScope N_Program_first [Str.ofString "self"] (defScope s_Program_first) := ⟨rfl, rfl, rfl, by decide +kernel, rfl, by decide +kernel, by decide +kernel⟩
def S_Program_first (K : PySem.W.Frag) : Sq := fun vs H Q => ∃ (v : V) (f : Str) (pg : Pg), vs = [v] ∧ rPg K H v (f, pg) ∧ Q (.str f) H
theorem r_Program_first (T : Tx K mg) : FnR P w K mg base CX0 1 (a_Program_first K) (sp (S_Program_first K)) := by
  refine fr_of (S := (S_Program_first K)) (N := N_Program_first) (f_Program_first T) sc_Program_first (fun vs H Q h => by first | (obtain ⟨rfl, _⟩ := h; rfl) | (obtain ⟨_, rfl, _⟩ := h; rfl) | (obtain ⟨_, _, rfl, _⟩ := h; rfl) | (obtain ⟨_, _, _, rfl, _⟩ := h; rfl) | (obtain ⟨_, _, _, _, rfl, _⟩ := h; rfl) | (obtain ⟨_, _, _, _, _, rfl, _⟩ := h; rfl) | (obtain ⟨_, _, _, _, _, _, rfl, _⟩ := h; rfl) | (obtain ⟨_, _, _, _, _, _, _, rfl, _⟩ := h; rfl) | (obtain ⟨_, _, _, _, _, _, _, _, rfl, _⟩ := h; rfl) | (obtain ⟨_, _, _, _, _, _, _, _, _, rfl, _⟩ := h; rfl) | (obtain ⟨_, _, _, _, _, _, _, _, _, _, rfl, _⟩ := h; rfl) | (obtain ⟨_, _, _, _, _, _, _, _, _, _, _, rfl, _⟩ := h; rfl) | (obtain ⟨_, _, _, _, _, _, _, _, _, _, _, _, rfl, _⟩ := h; rfl) | (obtain ⟨_, _, _, _, _, _, _, _, _, _, _, _, _, rfl, _⟩ := h; rfl) | (obtain ⟨_, _, _, _, _, _, _, _, _, _, _, _, _, _, rfl, _⟩ := h; rfl) | (obtain ⟨_, _, _, _, _, _, _, _, _, _, _, _, _, _, _, rfl, _⟩ := h; rfl) | (obtain ⟨_, _, _, _, _, _, _, _, _, _, _, _, _, _, _, _, rfl, _⟩ := h; rfl)) (fun _ _ _ _ _ _ us hl => match us, hl with | [_], _ => rfl) (fun cdv A outer s H vs Q E hr h => ?_)
  obtain ⟨v, f, pg, rfl, ⟨a, rfl, dx, d, hs, hd⟩, q⟩ := h
  refine ⟨_, (pss_one (ps_ret (peSl K rfl (pv 0)))), ?_⟩
  exact ⟨_, rfl, a, _, dx, _, _, _, _, rfl, hs, c_Program T, sl_held_first T, rfl, q⟩
/-- slots: 0 self, 1 name -/
abbrev N_Program_need : List Str := [Str.ofString "self", Str.ofString "name"]
theorem sc_Program_need : FnScope N_Program_need [Str.ofString "self", Str.ofString "name"] (defScope s_Program_need) := ⟨rfl, rfl, rfl, by decide +kernel, rfl, by decide +kernel, by decide +kernel⟩
def S_Program_need (K : PySem.W.Frag) : Sq := fun vs H Q => ∃ (v : V) (f n : Str) (pg : Pg), vs = [v, .str n] ∧ rPg K H v (f, pg) ∧ n ∈ keys pg ∧ Q .non H
theorem r_Program_need (T : Tx K mg) : FnR P w K mg base CX0 1 (a_Program_need K) (sp (S_Program_need K)) := by
  refine fr_of (S := (S_Program_need K)) (N := N_Program_need) (f_Program_need T) sc_Program_need (fun vs H Q h => by first | (obtain ⟨rfl, _⟩ := h; rfl) | (obtain ⟨_, rfl, _⟩ := h; rfl) | (obtain ⟨_, _, rfl, _⟩ := h; rfl) | (obtain ⟨_, _, _, rfl, _⟩ := h; rfl) | (obtain ⟨_, _, _, _, rfl, _⟩ := h; rfl) | (obtain ⟨_, _, _, _, _, rfl, _⟩ := h; rfl) | (obtain ⟨_, _, _, _, _, _, rfl, _⟩ := h; rfl) | (obtain ⟨_, _, _, _, _, _, _, rfl, _⟩ := h; rfl) | (obtain ⟨_, _, _, _, _, _, _, _, rfl, _⟩ := h; rfl) | (obtain ⟨_, _, _, _, _, _, _, _, _, rfl, _⟩ := h; rfl) | (obtain ⟨_, _, _, _, _, _, _, _, _, _, rfl, _⟩ := h; rfl) | (obtain ⟨_, _, _, _, _, _, _, _, _, _, _, rfl, _⟩ := h; rfl) | (obtain ⟨_, _, _, _, _, _, _, _, _, _, _, _, rfl, _⟩ := h; rfl) | (obtain ⟨_, _, _, _, _, _, _, _, _, _, _, _, _, rfl, _⟩ := h; rfl) | (obtain ⟨_, _, _, _, _, _, _, _, _, _, _, _, _, _, rfl, _⟩ := h; rfl) | (obtain ⟨_, _, _, _, _, _, _, _, _, _, _, _, _, _, _, rfl, _⟩ := h; rfl) | (obtain ⟨_, _, _, _, _, _, _, _, _, _, _, _, _, _, _, _, rfl, _⟩ := h; rfl)) (fun _ _ _ _ _ _ us hl => match us, hl with | [_, _], _ => rfl) (fun cdv A outer s H vs Q E hr h => ?_)
  obtain ⟨v, f, n, pg, rfl, ⟨a, rfl, dx, d, hs, ⟨d1, od, kvs, rfl, hd, dp⟩⟩, hn, q⟩ := h
  refine ⟨_, (pss_one (ps_if (PW.pt (pw_or (pt_not (pt_val (pe_callB (cIsi K rfl) rfl (n_isinstance T) (by decide +kernel) (pa_cons (pv 1) (pa_cons (pe_bltn (v := .ty "str") rfl (n_str T) (by decide +kernel) rfl) pa_nil))))) (pw_or1 (pt_cmp (pc_dnotin (hu_of hr) (pv 1) (peSl K rfl (pv 0))))))) (pss_one ps_never) pss_nil)), ?_⟩
  obtain ⟨p, ep⟩ := lk_some hn
  obtain ⟨v2, ev, _⟩ := dp.some ep
  refine ⟨_, rfl, _, _, _, _, _, rfl, .ty _, .base (.str _), kt_ss, true, rfl, iteF ?_⟩
  refine ⟨_, rfl, _, rfl, a, _, dx, _, _, _, _, rfl, hs, c_Program T, sl_held_procedures T, rfl, d1, _, rfl, dgR (.inr ⟨od, hd⟩) ev, _, rfl, iteF q⟩
/-- slots: 0 self, 1 name -/
abbrev N_Program_getitem : List Str := [Str.ofString "self", Str.ofString "name"]
theorem sc_Program_getitem : FnScope N_Program_getitem [Str.ofString "self", Str.ofString "name"] (defScope s_Program_getitem) := ⟨rfl, rfl, rfl, by decide +kernel, rfl, by decide +kernel, by decide +kernel⟩
def S_Program_getitem (K : PySem.W.Frag) : Sq := fun vs H Q => ∃ (v : V) (f n : Str) (pg : Pg) (p : Pr), vs = [v, .str n] ∧ rPg K H v (f, pg) ∧ lk pg n = some p ∧ ∀ v', rPr K H v' p → Q v' H
theorem r_Program_getitem (T : Tx K mg) (c_Program_need : CalS P w K mg base 1 (cG K) "need" (S_Program_need K)) : FnR P w K mg base CX0 2 (a_Program_getitem K) (sp (S_Program_getitem K)) := by
  refine fr_of (S := (S_Program_getitem K)) (N := N_Program_getitem) (f_Program_getitem T) sc_Program_getitem (fun vs H Q h => by first | (obtain ⟨rfl, _⟩ := h; rfl) | (obtain ⟨_, rfl, _⟩ := h; rfl) | (obtain ⟨_, _, rfl, _⟩ := h; rfl) | (obtain ⟨_, _, _, rfl, _⟩ := h; rfl) | (obtain ⟨_, _, _, _, rfl, _⟩ := h; rfl) | (obtain ⟨_, _, _, _, _, rfl, _⟩ := h; rfl) | (obtain ⟨_, _, _, _, _, _, rfl, _⟩ := h; rfl) | (obtain ⟨_, _, _, _, _, _, _, rfl, _⟩ := h; rfl) | (obtain ⟨_, _, _, _, _, _, _, _, rfl, _⟩ := h; rfl) | (obtain ⟨_, _, _, _, _, _, _, _, _, rfl, _⟩ := h; rfl) | (obtain ⟨_, _, _, _, _, _, _, _, _, _, rfl, _⟩ := h; rfl) | (obtain ⟨_, _, _, _, _, _, _, _, _, _, _, rfl, _⟩ := h; rfl) | (obtain ⟨_, _, _, _, _, _, _, _, _, _, _, _, rfl, _⟩ := h; rfl) | (obtain ⟨_, _, _, _, _, _, _, _, _, _, _, _, _, rfl, _⟩ := h; rfl) | (obtain ⟨_, _, _, _, _, _, _, _, _, _, _, _, _, _, rfl, _⟩ := h; rfl) | (obtain ⟨_, _, _, _, _, _, _, _, _, _, _, _, _, _, _, rfl, _⟩ := h; rfl) | (obtain ⟨_, _, _, _, _, _, _, _, _, _, _, _, _, _, _, _, rfl, _⟩ := h; rfl)) (fun _ _ _ _ _ _ us hl => match us, hl with | [_, _], _ => rfl) (fun cdv A outer s H vs Q E hr h => ?_)
  obtain ⟨v, f, n, pg, p, rfl, hp, hn, q⟩ := h
  obtain ⟨a, rfl, dx, d, hs, ⟨d1, od, kvs, rfl, hd, dp⟩⟩ := id hp
  refine ⟨_, (pss_cons (ps_expr (pmethS c_Program_need hr (by decide) (pv 0) (pa_cons (pv 1) pa_nil)))
      (pss_one (ps_ret (pe_dget (hu_of hr) (peSl K rfl (pv 0)) (pv 1) (fun _ _ => rfl))))), ?_⟩
  obtain ⟨v2, ev, hv⟩ := dp.some hn
  refine ⟨_, rfl, a, dx, _, rfl, hs, _, rfl, _, f, n, pg, rfl, hp, lk_key hn, ?_⟩
  exact ⟨_, rfl, a, _, dx, _, _, _, _, rfl, hs, c_Program T, sl_held_procedures T, rfl, _, rfl, d1, _, rfl, dgR (.inr ⟨od, hd⟩) ev, q _ hv⟩
theorem call_of {s : Sm} (h : isCall s = true) : ∃ f as rs, s = .call f as rs := by
  cases s with
  | call f as rs => exact ⟨f, as, rs, rfl⟩
  | skip => cases h
  | sets xs => cases h
  | mx hi x ps => cases h
/-- slots: 0 self, 1 procedure, 2 index, 3 statement -/
abbrev N_Program_need_called : List Str := [Str.ofString "self", Str.ofString "procedure", Str.ofString "index", Str.ofString "statement"]
theorem sc_Program_need_called : FnScope N_Program_need_called [Str.ofString "self"] (defScope s_Program_need_called) := ⟨rfl, rfl, rfl, by decide +kernel, rfl, by decide +kernel, by decide +kernel⟩
def S_needG (K : PySem.W.Frag) : Sq := fun vs H Q => ∃ (v : V) (f : Str) (pg : Pg), vs = [v] ∧ rPg K H v (f, pg) ∧ OkPg pg ∧ ∀ H', Same H H' → Q .non H'
theorem r_need_called (T : Tx K mg) (c_calls : Cal P w K mg base 2 "calls" (S_calls K)) (c_Program_need : CalS P w K mg base 1 (cG K) "need" (S_Program_need K)) : FnR P w K mg base CX0 3 (a_Program_need_called K) (sp (S_needG K)) := by
  refine fr_of (S := (S_needG K)) (N := N_Program_need_called) (f_Program_need_called T) sc_Program_need_called (fun vs H Q h => by first | (obtain ⟨rfl, _⟩ := h; rfl) | (obtain ⟨_, rfl, _⟩ := h; rfl) | (obtain ⟨_, _, rfl, _⟩ := h; rfl) | (obtain ⟨_, _, _, rfl, _⟩ := h; rfl) | (obtain ⟨_, _, _, _, rfl, _⟩ := h; rfl) | (obtain ⟨_, _, _, _, _, rfl, _⟩ := h; rfl) | (obtain ⟨_, _, _, _, _, _, rfl, _⟩ := h; rfl) | (obtain ⟨_, _, _, _, _, _, _, rfl, _⟩ := h; rfl) | (obtain ⟨_, _, _, _, _, _, _, _, rfl, _⟩ := h; rfl) | (obtain ⟨_, _, _, _, _, _, _, _, _, rfl, _⟩ := h; rfl) | (obtain ⟨_, _, _, _, _, _, _, _, _, _, rfl, _⟩ := h; rfl) | (obtain ⟨_, _, _, _, _, _, _, _, _, _, _, rfl, _⟩ := h; rfl) | (obtain ⟨_, _, _, _, _, _, _, _, _, _, _, _, rfl, _⟩ := h; rfl) | (obtain ⟨_, _, _, _, _, _, _, _, _, _, _, _, _, rfl, _⟩ := h; rfl) | (obtain ⟨_, _, _, _, _, _, _, _, _, _, _, _, _, _, rfl, _⟩ := h; rfl) | (obtain ⟨_, _, _, _, _, _, _, _, _, _, _, _, _, _, _, rfl, _⟩ := h; rfl) | (obtain ⟨_, _, _, _, _, _, _, _, _, _, _, _, _, _, _, _, rfl, _⟩ := h; rfl)) (fun _ _ _ _ _ _ us hl => match us, hl with | [_], _ => rfl) (fun cdv A outer s H vs Q E hr h => ?_)
  obtain ⟨v, f, pg, rfl, hp, ok, q⟩ := h
  obtain ⟨a, rfl, dx, d, hs, ⟨d1, od, kvs, rfl, hd, dp⟩⟩ := id hp
  refine ⟨_, (pss_one (ps_for PassesOwn.never rfl (pi_values (peSl K rfl (pv 0))) (pg_name (i := 1) sc_Program_need_called.nd rfl (.inl rfl)) (pss_one (ps_for PassesOwn.never rfl (piList K rfl (pcall c_calls hr (by decide) rfl (pa_cons (pv 1) pa_nil))) (pgTup (n := 2) K rfl rfl (pgs_cons (pg_name (i := 2) sc_Program_need_called.nd rfl (.inl rfl)) (pgs_cons (pg_name (i := 3) sc_Program_need_called.nd rfl (.inl rfl)) pgs_nil))) (pss_one (ps_expr (pmethS c_Program_need hr (by decide) (pv 0) (pa_cons (pe_ix (ixT K rfl) (pv 3) pe_int (fun _ _ => rfl)) pa_nil)))))))), ?_⟩
  refine ⟨_, rfl, a, _, dx, _, _, _, _, rfl, hs, c_Program T, sl_held_procedures T, rfl, d1, od, kvs, rfl, hd, ?_⟩
  refine for_d (wd_values dp) (fun (_ : List (Str × Pr)) (σ : L2.St) (H' : Hp) => ∃ y1 y2 y3, σ = [some (V.ref a), y1, y2, y3] ∧ Same H H') ⟨_, _, _, rfl, Same.refl H⟩ ?_ ?_ ?_
  · rintro d2 σ H' ⟨_, _, _, _, s⟩
    exact s _ _ hd
  · rintro d2 x rr z σ H1 H' el ⟨y1, y2, y3, rfl, s⟩ ⟨rfl, rz⟩
    have hxm : x ∈ pg := by rw [show pg = d2 ++ x :: rr from el]; simp
    refine ⟨_, rfl, _, x.2, rfl, mo (kp_of s) rz, (ok.pr x hxm).wl, fun v3 L H3 s3 ⟨l3, o3, xs3, e3, h3, p3⟩ hL => ?_⟩
    subst e3
    refine ⟨l3, rfl, ⟨xs3, .inl (.inr ⟨_, h3⟩)⟩, ?_⟩
    refine for_d (wd_list p3) (fun (_ : List (Nat × Sm)) (σ : L2.St) (H2 : Hp) => ∃ y2 y3, σ = [some (V.ref a), some z, y2, y3] ∧ Same H3 H2) ⟨_, _, rfl, Same.refl _⟩ ?_ ?_ ?_
    · rintro d3 σ H2 ⟨_, _, _, s4⟩
      exact .inl (.inr ⟨_, s4 _ _ h3⟩)
    · rintro d3 t r3 z3 σ H2 H4 el3 ⟨y2, y3, rfl, s4⟩ ⟨rfl, rt⟩
      obtain ⟨c, u, rfl, hc, hu⟩ := mo (kp_of s4) rt
      obtain ⟨hcall, y, hy, ey⟩ := hL t (by rw [el3]; simp)
      obtain ⟨g, as, rs, es⟩ := call_of hcall
      rw [es] at hu
      obtain ⟨b, y8, z8, rfl, hb, _⟩ := hu
      obtain ⟨pq, epq, _⟩ := ok.cl x hxm y hy g as rs (by rw [ey, es])
      have sA := s.trans (s3.trans s4)
      refine ⟨_, _, rfl, .inl (.inl hc), rfl, _, _, rfl, _, _, rfl, rfl, ?_⟩
      refine ⟨_, rfl, a, dx, _, rfl, slt_keep (kp_of sA) hs, _, rfl, _, _, _, _, rfl, rfl, .inl (.inl hb), at1, _, f, g, pg, rfl, mo (kp_of sA) hp, lk_key epq, _, _, rfl, s4⟩
    · rintro σ H2 ⟨y2, y3, rfl, s4⟩
      exact ⟨_, _, _, rfl, s.trans (s3.trans s4)⟩
  · rintro σ H1 ⟨y1, y2, y3, rfl, s⟩
    exact q _ s
/-- slots: 0 self, 1 name, 2 procedure, 3 index, 4 statement -/
abbrev N_Program_need_fit : List Str := [Str.ofString "self", Str.ofString "name", Str.ofString "procedure", Str.ofString "index", Str.ofString "statement"]
theorem sc_Program_need_fit : FnScope N_Program_need_fit [Str.ofString "self"] (defScope s_Program_need_fit) := ⟨rfl, rfl, rfl, by decide +kernel, rfl, by decide +kernel, by decide +kernel⟩
theorem r_need_fit (T : Tx K mg) (c_calls : Cal P w K mg base 2 "calls" (S_calls K)) (c_is_fit : Cal P w K mg base 3 "is_fit" (S_is_fit K)) : FnR P w K mg base CX0 4 (a_Program_need_fit K) (sp (S_needG K)) := by
  refine fr_of (S := (S_needG K)) (N := N_Program_need_fit) (f_Program_need_fit T) sc_Program_need_fit (fun vs H Q h => by first | (obtain ⟨rfl, _⟩ := h; rfl) | (obtain ⟨_, rfl, _⟩ := h; rfl) | (obtain ⟨_, _, rfl, _⟩ := h; rfl) | (obtain ⟨_, _, _, rfl, _⟩ := h; rfl) | (obtain ⟨_, _, _, _, rfl, _⟩ := h; rfl) | (obtain ⟨_, _, _, _, _, rfl, _⟩ := h; rfl) | (obtain ⟨_, _, _, _, _, _, rfl, _⟩ := h; rfl) | (obtain ⟨_, _, _, _, _, _, _, rfl, _⟩ := h; rfl) | (obtain ⟨_, _, _, _, _, _, _, _, rfl, _⟩ := h; rfl) | (obtain ⟨_, _, _, _, _, _, _, _, _, rfl, _⟩ := h; rfl) | (obtain ⟨_, _, _, _, _, _, _, _, _, _, rfl, _⟩ := h; rfl) | (obtain ⟨_, _, _, _, _, _, _, _, _, _, _, rfl, _⟩ := h; rfl) | (obtain ⟨_, _, _, _, _, _, _, _, _, _, _, _, rfl, _⟩ := h; rfl) | (obtain ⟨_, _, _, _, _, _, _, _, _, _, _, _, _, rfl, _⟩ := h; rfl) | (obtain ⟨_, _, _, _, _, _, _, _, _, _, _, _, _, _, rfl, _⟩ := h; rfl) | (obtain ⟨_, _, _, _, _, _, _, _, _, _, _, _, _, _, _, rfl, _⟩ := h; rfl) | (obtain ⟨_, _, _, _, _, _, _, _, _, _, _, _, _, _, _, _, rfl, _⟩ := h; rfl)) (fun _ _ _ _ _ _ us hl => match us, hl with | [_], _ => rfl) (fun cdv A outer s H vs Q E hr h => ?_)
  obtain ⟨v, f, pg, rfl, hp, ok, q⟩ := h
  obtain ⟨a, rfl, dx, d, hs, ⟨d1, od, kvs, rfl, hd, dp⟩⟩ := id hp
  refine ⟨_, (pss_one (ps_for PassesOwn.never rfl (pi_items (peSl K rfl (pv 0))) (pgTup (n := 2) K rfl rfl (pgs_cons (pg_name (i := 1) sc_Program_need_fit.nd rfl (.inl rfl)) (pgs_cons (pg_name (i := 2) sc_Program_need_fit.nd rfl (.inl rfl)) pgs_nil))) (pss_one (ps_for PassesOwn.never rfl (piList K rfl (pcall c_calls hr (by decide) rfl (pa_cons (pv 2) pa_nil))) (pgTup (n := 2) K rfl rfl (pgs_cons (pg_name (i := 3) sc_Program_need_fit.nd rfl (.inl rfl)) (pgs_cons (pg_name (i := 4) sc_Program_need_fit.nd rfl (.inl rfl)) pgs_nil))) (pss_one (ps_if (pt_not (pt_val (pcall c_is_fit hr (by decide) rfl (pa_cons (pv 2) (pa_cons (pe_dget (hu_of hr) (peSl K rfl (pv 0)) (pe_ix (ixT K rfl) (pv 4) pe_int (fun _ _ => rfl)) (fun _ _ => rfl)) (pa_cons (pv 4) pa_nil)))))) (pss_one ps_never) pss_nil)))))), ?_⟩
  refine ⟨_, rfl, a, _, dx, _, _, _, _, rfl, hs, c_Program T, sl_held_procedures T, rfl, d1, od, kvs, rfl, hd, ?_⟩
  refine for_d (wd_items dp) (fun (_ : List (Str × Pr)) (σ : L2.St) (H' : Hp) => ∃ y1 y2 y3 y4, σ = [some (V.ref a), y1, y2, y3, y4] ∧ Same H H') ⟨_, _, _, _, rfl, Same.refl H⟩ ?_ ?_ ?_
  · rintro d2 σ H' ⟨_, _, _, _, _, s⟩
    exact s _ _ hd
  · rintro d2 x rr z σ H1 H' el ⟨y1, y2, y3, y4, rfl, s⟩ ⟨t9, v9, rfl, ht9, rfl, rz⟩
    have hxm : x ∈ pg := by rw [show pg = d2 ++ x :: rr from el]; simp
    have st9 : Same H1 (upd H1 t9 (.tup [V.str x.1, v9])) := same_new ht9
    have sZ := s.trans st9
    refine ⟨_, _, rfl, .inl (.inl upd_same), rfl, _, _, rfl, _, _, rfl, rfl, ?_⟩
    refine ⟨_, rfl, _, x.2, rfl, mo (kp_of sZ) rz, (ok.pr x hxm).wl, fun v3 L H3 s3 ⟨l3, o3, xs3, e3, h3, p3⟩ hL => ?_⟩
    subst e3
    refine ⟨l3, rfl, ⟨xs3, .inl (.inr ⟨_, h3⟩)⟩, ?_⟩
    refine for_d (wd_list p3) (fun (_ : List (Nat × Sm)) (σ : L2.St) (H2 : Hp) => ∃ y3 y4, σ = [some (V.ref a), some (V.str x.1), some v9, y3, y4] ∧ Same H3 H2) ⟨_, _, rfl, Same.refl _⟩ ?_ ?_ ?_
    · rintro d3 σ H2 ⟨_, _, _, s4⟩
      exact .inl (.inr ⟨_, s4 _ _ h3⟩)
    · rintro d3 t r3 z3 σ H2 H4 el3 ⟨y3, y4, rfl, s4⟩ ⟨rfl, rt⟩
      obtain ⟨c, u, rfl, hc, hu⟩ := mo (kp_of s4) rt
      obtain ⟨hcall, y, hy, ey⟩ := hL t (by rw [el3]; simp)
      obtain ⟨g, as, rs, es⟩ := call_of hcall
      rw [es] at hu
      obtain ⟨b, y8, z8, rfl, hb, hb2⟩ := id hu
      have esy : y.s = .call g as rs := by rw [ey, es]
      obtain ⟨pq, epq, cf⟩ := ok.cl x hxm y hy g as rs esy
      obtain ⟨v7, ev7, hv7⟩ := dp.some epq
      have sA := sZ.trans (s3.trans s4)
      have hin := ((ok.pr x hxm).ws y hy).2.2.2.1
      rw [esy] at hin
      refine ⟨_, _, rfl, .inl (.inl hc), rfl, _, _, rfl, _, _, rfl, rfl, ?_⟩
      refine ⟨_, rfl, _, rfl, a, _, dx, _, _, _, _, rfl, slt_keep (kp_of sA) hs, c_Program T, sl_held_procedures T, rfl, _, rfl, _, _, _, _, rfl, rfl, .inl (.inl hb), at1, d1, _, rfl, dgR (.inr ⟨od, sA _ _ hd⟩) ev7, _, rfl, ?_⟩
      exact ⟨_, _, _, x.2, pq, g, as, rs, rfl, mo (kp_of sA) rz, mo (kp_of sA) hv7, hu, ok.pr x hxm, ok.pr (g, pq) (lk_mem epq), hin, cf, fun H6 s6 => ⟨true, rfl, iteF ⟨_, _, rfl, s4.trans s6⟩⟩⟩
    · rintro σ H2 ⟨y3, y4, rfl, s4⟩
      exact ⟨_, _, _, _, rfl, sZ.trans (s3.trans s4)⟩
  · rintro σ H1 ⟨y1, y2, y3, y4, rfl, s⟩
    exact q _ s
/-! ### Program.__init__ -/
theorem PrAt.off {x dx C : Addr} {H H' : Hp} {a : Addr} {p : Pr} (f : Off x dx H H') (hx : H x = some (.ins C dx [])) (hd : H dx = some (.own x)) (ne : C ≠ cP K ∨ True) (h : PrAt K H a p) : PrAt K H' a p := by
  obtain ⟨dy, k, u, r, w, hs, h1, h2, h3, h4⟩ := h
  have kd : KeepD H H' := f.keepD (vs := []) (.inl ⟨hx, rfl⟩) ⟨_, hd, fun z => z⟩
  refine ⟨dy, k, u, r, w, ?_, md kd h1, md kd h2, md kd h3, md kd h4⟩
  rcases hs with ⟨_, e⟩ | ⟨e1, e2⟩
  · cases e
  · have n1 : a ≠ x := fun z => by rw [z, hx] at e1; cases e1
    have n2 : a ≠ dx := fun z => by rw [z, hd] at e1; cases e1
    have n3 : dy ≠ x := fun z => by rw [z, hx] at e2; cases e2
    have n4 : dy ≠ dx := fun z => by rw [z, hd] at e2; cases e2
    exact .inr ⟨f _ _ n1 n2 e1, f _ _ n3 n4 e2⟩
def sortG (pg : Pg) : Pg := (srt (keys pg)).map fun x => (x, prOf pg x)
theorem sortG_keys (pg : Pg) : keys (sortG pg) = srt (keys pg) := keys_self _ _
/-- slots: 0 self, 1 procedures*, 2 first, 3 name -/
abbrev N_Program_init : List Str := [Str.ofString "self", Str.ofString "procedures", Str.ofString "first", Str.ofString "name"]
theorem sc_Program_init : FnScope N_Program_init [Str.ofString "self", Str.ofString "procedures", Str.ofString "first"] (defScope s_Program_init) := ⟨rfl, rfl, rfl, by decide +kernel, rfl, by decide +kernel, by decide +kernel⟩
def S_Program_init (K : PySem.W.Frag) : Sq := fun vs H Q => ∃ (x dx : Addr) (v : V) (first : Str) (pg : Pg), vs = [.ref x, v, .str first] ∧ H x = some (.ins (cG K) dx []) ∧ dx ≠ x ∧ H dx = some (.own x) ∧ rDic (rPr K) H v pg ∧ OkPg pg ∧ OkPg (sortG pg) ∧ first ∈ keys pg ∧
  ∀ H', Off x dx H H' → PgAt K H' x first (sortG pg) → Q .non H'
theorem r_Program_init (T : Tx K mg) (c_are_procedures : Cal P w K mg base 2 "are_procedures" (S_are_procedures K)) (c_is_name : Cal P w K mg base 1 "is_name" S_is_name) (c_Program_need : CalS P w K mg base 1 (cG K) "need" (S_Program_need K))
    (c_Program_need_called : CalS P w K mg base 3 (cG K) "need_called" (S_needG K)) (c_Program_need_fit : CalS P w K mg base 4 (cG K) "need_fit" (S_needG K)) : FnR P w K mg base CX0 5 (a_Program_init K) (sp (S_Program_init K)) := by
  refine fr_of (S := (S_Program_init K)) (N := N_Program_init) (f_Program_init T) sc_Program_init (fun vs H Q h => by first | (obtain ⟨rfl, _⟩ := h; rfl) | (obtain ⟨_, rfl, _⟩ := h; rfl) | (obtain ⟨_, _, rfl, _⟩ := h; rfl) | (obtain ⟨_, _, _, rfl, _⟩ := h; rfl) | (obtain ⟨_, _, _, _, rfl, _⟩ := h; rfl) | (obtain ⟨_, _, _, _, _, rfl, _⟩ := h; rfl) | (obtain ⟨_, _, _, _, _, _, rfl, _⟩ := h; rfl) | (obtain ⟨_, _, _, _, _, _, _, rfl, _⟩ := h; rfl) | (obtain ⟨_, _, _, _, _, _, _, _, rfl, _⟩ := h; rfl) | (obtain ⟨_, _, _, _, _, _, _, _, _, rfl, _⟩ := h; rfl) | (obtain ⟨_, _, _, _, _, _, _, _, _, _, rfl, _⟩ := h; rfl) | (obtain ⟨_, _, _, _, _, _, _, _, _, _, _, rfl, _⟩ := h; rfl) | (obtain ⟨_, _, _, _, _, _, _, _, _, _, _, _, rfl, _⟩ := h; rfl) | (obtain ⟨_, _, _, _, _, _, _, _, _, _, _, _, _, rfl, _⟩ := h; rfl) | (obtain ⟨_, _, _, _, _, _, _, _, _, _, _, _, _, _, rfl, _⟩ := h; rfl) | (obtain ⟨_, _, _, _, _, _, _, _, _, _, _, _, _, _, _, rfl, _⟩ := h; rfl) | (obtain ⟨_, _, _, _, _, _, _, _, _, _, _, _, _, _, _, _, rfl, _⟩ := h; rfl)) (fun _ _ _ _ _ _ us hl => match us, hl with | [_, _, _], _ => rfl) (fun cdv A outer s H vs Q E hr h => ?_)
  obtain ⟨x, dx, v, first, pg, rfl, hx, hne, hdx, hv, ok, oks, hf, q⟩ := h
  refine ⟨_, (pss_cons (ps_if (pt_not (pt_val (pcall c_are_procedures hr (by decide) rfl (pa_cons (pv 1) pa_nil)))) (pss_one ps_never) pss_nil)
      (pss_cons (ps_if (pt_not (pt_val (pcall c_is_name hr (by decide) rfl (pa_cons (pv 2) pa_nil)))) (pss_one ps_never) pss_nil)
      (pss_cons (SlX.ps_sl (pv 0) (pe_fz (pe_dc (own := [("name", 3)]) (g := gName 3) rfl sc_Program_init.nd (piList K rfl (pe_callB (call_sortedD rfl) rfl (n_sorted T) (by decide +kernel) (pa_cons (pv 1) pa_nil))) (blkOk_by (own := [("name", 3)]) (N := N_Program_init) (sc := defScope s_Program_init) (by decide +kernel)) (fun _ _ _ _ _ => (pg_name (i := 3) sc_Program_init.nd rfl (.inl rfl))) (fun _ _ _ _ _ => pts_nil) (fun _ _ _ _ _ => (pv 3)) (fun _ _ _ _ _ => (pe_dget (hu_of hr) (pv 1) (pv 3) (fun _ _ => rfl))))))
      (pss_cons (SlX.ps_sl (pv 0) (pv 2))
      (pss_cons (ps_expr (pmethS c_Program_need hr (by decide) (pv 0) (pa_cons (pv 2) pa_nil)))
      (pss_cons (ps_expr (pmethS0 c_Program_need_called hr (by decide) (pv 0)))
      (pss_one (ps_expr (pmethS0 c_Program_need_fit hr (by decide) (pv 0)))))))))), ?_⟩
  refine ⟨_, rfl, _, pg, rfl, hv, ok.nd, ok.len, ok.ne, ok.nm, fun H1 s1 => ⟨true, rfl, iteF ?_⟩⟩
  refine ⟨_, rfl, first, rfl, ok.nm _ hf, fun H2 s2 => ⟨true, rfl, iteF ?_⟩⟩
  have sE := s1.trans s2
  obtain ⟨kd0, kod, kkvs, rfl, hkd, kdp⟩ := mo (kp_of sE) hv
  refine ⟨_, rfl, kd0, kkvs, keys pg, rfl, .inr ⟨kod, hkd⟩, kdp.keys, by unfold keys; rw [List.length_map]; have := ok.len; omega, fun ys p hpm hso hp => ?_⟩
  have s5 : Same H2 (upd H2 p (.lst (ys.map V.str))) := same_new hp
  refine ⟨p, rfl, ⟨_, .inl (.inl upd_same)⟩, fun D5 hD5 => ?_⟩
  have ey := srt_eq hpm hso
  refine dc_m (wd_list (of_strs (H := H) ys)) none (rPr K) (fun z => z) (fun z => prOf pg z) hD5 (go_refl _) (fun H' g => .inl (.inl (g _ _ upd_same))) (sz1000 (by rw [hpm.length_eq]; unfold keys; rw [List.length_map]; have := ok.len; omega)) (fun z v H2' H' L' hz go y fin => ?_) fun H6 kvs2 go6 hD6 dp6 => ?_
  · obtain ⟨rfl, rfl⟩ := y
    obtain ⟨kz, ekz⟩ := lk_some (hpm.mem_iff.mp hz)
    obtain ⟨v9, ev9, hv9⟩ := kdp.some ekz
    refine ⟨rfl, yes ⟨_, rfl, _, rfl, _, rfl, kd0, _, rfl, dgR (.inr ⟨kod, go _ _ (s5 _ _ hkd)⟩) ev9, fin _ _ (go_refl _) ?_⟩⟩
    unfold prOf
    rw [ekz]
    exact mo (kp_of (Same.trans s5 go)) hv9
  refine ⟨D5, _, rfl, hD6, trivial, fun od5 => ?_⟩
  have hD5n : H D5 = none := Same.free (sE.trans s5) hD5
  have sF : Same H (upd H6 D5 (.frz od5 (.dK kvs2))) := Same.mut (sE.trans (Same.trans s5 go6)) hD5n
  have k6 : Keep H6 (upd H6 D5 (.frz od5 (.dK kvs2))) := kp_mut hD6 (fun z => z)
  have hDF : (upd H6 D5 (.frz od5 (.dK kvs2))) D5 = some (.frz od5 (.dK kvs2)) := upd_same
  have rk : DicP (rPr K) (upd H6 D5 (.frz od5 (.dK kvs2))) kvs2 (sortG pg) := by
    rw [nd_map, ey] at dp6
    · exact dp6.mono k6
    · rw [keys_self]; exact hpm.nodup_iff.mpr ok.nd
  generalize hHF : upd H6 D5 (.frz od5 (.dK kvs2)) = HF at sF rk hDF
  have xF := sF _ _ hx
  have dF := sF _ _ hdx
  have sl0 : SlX.Slt HF x (cG K) dx [] := .inl ⟨xF, rfl⟩
  have dn0 : ∃ o, HF dx = some o ∧ ¬ ImD o := ⟨_, dF, fun z => z⟩
  refine ⟨_, rfl, x, _, dx, _, _, _, rfl, sl0, c_Program T, sl_held_procedures T, ?_⟩
  have sl1 : SlX.Slt (SlX.slH HF x (cG K) dx (SlX.putS 1 (.ref D5) [])) x (cG K) dx [none, some (.ref D5)] := SlX.slH_slt hne
  have of1 : Off x dx HF (SlX.slH HF x (cG K) dx (SlX.putS 1 (.ref D5) [])) := off_slH
  generalize hH1 : SlX.slH HF x (cG K) dx (SlX.putS 1 (.ref D5) []) = G1 at sl1 of1
  refine ⟨_, rfl, _, rfl, x, _, dx, _, _, _, rfl, sl1, c_Program T, sl_held_first T, ?_⟩
  have sl2 : SlX.Slt (SlX.slH G1 x (cG K) dx (SlX.putS 0 (.str first) [none, some (.ref D5)])) x (cG K) dx [some (.str first), some (.ref D5)] := SlX.slH_slt hne
  have of2 := of1.trans (off_slH (H := G1) (x := x) (C := cG K) (dx := dx) (vs := SlX.putS 0 (.str first) [none, some (.ref D5)]))
  generalize hH2 : SlX.slH G1 x (cG K) dx (SlX.putS 0 (.str first) [none, some (.ref D5)]) = G2 at sl2 of2
  have hD2 : G2 D5 = some (.frz od5 (.dK kvs2)) := of2 _ _ (ne_of hDF xF (fun z => nomatch z)) (ne_of hDF dF (fun z => nomatch z)) hDF
  have dp2 : DicP (rPr K) G2 kvs2 (sortG pg) := L2.Paired.mapP rk fun kv z ⟨e, a, e2, h⟩ => ⟨e, a, e2, h.off of2 xF dF (.inr trivial)⟩
  have hpg : PgAt K G2 x first (sortG pg) := ⟨dx, _, sl2, D5, od5, kvs2, rfl, hD2, dp2⟩
  refine ⟨_, rfl, x, dx, _, rfl, sl2, _, rfl, _, first, first, sortG pg, rfl, ⟨x, rfl, hpg⟩, by rw [sortG_keys]; exact mem_srt.mpr hf, ?_⟩
  refine ⟨_, rfl, x, dx, _, rfl, sl2, _, first, sortG pg, rfl, ⟨x, rfl, hpg⟩, oks, fun N1 n1 => ?_⟩
  refine ⟨_, rfl, x, dx, _, rfl, slt_keep (kp_of n1) sl2, _, first, sortG pg, rfl, ⟨x, rfl, hpg.mono (kp_of n1)⟩, oks, fun N2 n2 => ?_⟩
  exact q _ (((off_of sF).trans of2).trans (off_of (n1.trans n2))) (hpg.mono (kp_of (n1.trans n2)))
end Fp

/-! ## FpMath -/
set_option Elab.async false
set_option linter.all false
set_option maxRecDepth 100000
namespace Fp
open PySem PySem.Spec PyProof.Rows
/-! ### rows that are joined -/
theorem joined_keys (k : Str) (rows : List Part) : keys (joined k rows) = srt (keys (jfound k rows)) := keys_self _ _
theorem joined_mem {k : Str} {rows : List Part} {y : Str} : y ∈ keys (joined k rows) ↔ ∃ p ∈ rows, p.1 = y := by
  rw [joined_keys, mem_srt]
  unfold jfound
  rw [jfold_keys]
  simp [keys]
theorem joined_nd (k : Str) (rows : List Part) : (keys (joined k rows)).Nodup := by
  rw [joined_keys]
  exact nd_srt (jfold_nd (f := []) (by simp [keys]))
theorem joined_row {S : List Str} {k : Str} {rows : List Part} (h : ∀ p ∈ rows, p.1 ∈ S) (ne : rows ≠ []) : (keys (joined k rows)).Nodup ∧ (∀ y ∈ keys (joined k rows), y ∈ S) ∧ joined k rows ≠ [] := by
  refine ⟨joined_nd k rows, fun y hy => ?_, fun e => ?_⟩
  · obtain ⟨p, hp, e⟩ := joined_mem.mp hy
    rw [← e]; exact h p hp
  · obtain ⟨p, hp⟩ := List.exists_mem_of_ne_nil _ ne
    have : p.1 ∈ keys (joined k rows) := joined_mem.mpr ⟨p, hp, rfl⟩
    rw [e] at this
    simp [keys] at this
theorem joined_one (k s : Str) (a : Int) : joined k [(s, a)] = [(s, a)] := by
  have e : jfound k [(s, a)] = [(s, a)] := by
    unfold jfound jstep
    rfl
  unfold joined
  rw [e]
  have e2 : srt (keys [(s, a)]) = [s] := rfl
  rw [e2]
  simp [lk]
theorem moved_one (s : Str) (a c : Int) : moved [(s, a)] c = [(s, a + c)] := rfl
theorem mkD_one {α : Type} (s : Str) (a : α) : mkD [(s, a)] = [(s, a)] := rfl
theorem moved_ne {r : Row} {c : Int} (h : r ≠ []) : moved r c ≠ [] := fun e => h (List.map_eq_nil_iff.mp e)
theorem mkD_ne {α : Type} {l : List (Str × α)} (h : l ≠ []) : mkD l ≠ [] := fun e => by
  obtain ⟨p, hp⟩ := List.exists_mem_of_ne_nil _ h
  have : p.1 ∈ keys (mkD l) := mkD_keys.mpr (List.mem_map.mpr ⟨p, hp, rfl⟩)
  rw [e] at this
  simp [keys] at this
theorem mkD_nd {α : Type} (l : List (Str × α)) : (keys (mkD l)).Nodup := by
  have go : ∀ (l d : List (Str × α)), (keys d).Nodup → (keys (l.foldl (fun d p => put d p.1 p.2) d)).Nodup := by
    intro l
    induction l with
    | nil => intro d h; exact h
    | cons p r ih => intro d h; exact ih _ (nd_put h)
  exact go l [] (by simp [keys])
/-! ### a Form of the procedure p, sources in S, seen from ks0 -/
structure FOk (S : List Str) (ks0 : List (Str × Str)) (p : Pr) (F : Fm) : Prop where
  wf : WfF S F
  kinds : F.kinds = p.kinds
  params : F.params = p.params
  results : F.results = p.results
  keys : keys F.table = keys p.kinds
  plain : ∀ x r, lk F.table x = some r → kindIn p.kinds x = "plain" → ∃ s a, r = [(s, a)] ∧ kd ks0 s = "plain"
theorem kd_zero (ks : List (Str × Str)) : kd ks e0 = "plain" := if_pos rfl
theorem FOk.pl {S : List Str} {ks0 : List (Str × Str)} {p : Pr} {F : Fm} (h : FOk S ks0 p F) {y : Str} (hy : Nm (Fp.keys F.table) y) (hk : kd p.kinds y = "plain") : ∃ s a, dictOf F.table y = [(s, a)] ∧ kd ks0 s = "plain" := by
  unfold dictOf
  by_cases e : y = e0
  · rw [if_pos e]
    exact ⟨e0, 0, rfl, kd_zero _⟩
  · rw [if_neg e]
    obtain ⟨r, er⟩ := lk_some (hy.resolve_left e)
    rw [er]
    unfold kd at hk
    rw [if_neg e] at hk
    exact h.plain y r er hk
/-- a row is put in place of an old one -/
theorem FOk.put {S : List Str} {ks0 : List (Str × Str)} {p : Pr} {F : Fm} (h : FOk S ks0 p F) {x : Str} {r : Row} (hx : x ∈ Fp.keys F.table) (hr : (Fp.keys r).Nodup ∧ (∀ y ∈ Fp.keys r, y ∈ S) ∧ r ≠ [])
    (hp : kindIn p.kinds x = "plain" → ∃ s a, r = [(s, a)] ∧ kd ks0 s = "plain") : FOk S ks0 p { F with table := Fp.put F.table x r } := by
  have hk : Fp.keys (Fp.put F.table x r) = Fp.keys F.table := keys_put_in hx
  have hl : (Fp.put F.table x r).length = F.table.length := by
    have := congrArg List.length hk
    unfold Fp.keys at this
    rw [List.length_map, List.length_map] at this
    exact this
  refine ⟨⟨by rw [hk]; exact h.wf.nd, fun y => by rw [hk]; exact h.wf.ks y, by rw [hk]; exact h.wf.ne, by rw [hl]; exact h.wf.len, h.wf.few, h.wf.z, fun y r2 e => ?_⟩, h.kinds, h.params, h.results, hk.trans h.keys, fun y r2 e hpl => ?_⟩
  · rw [lk_put] at e
    split at e
    · cases e; exact hr
    · exact h.wf.row y r2 e
  · rw [lk_put] at e
    split at e
    · rename_i ey
      cases e
      rw [ey] at hpl
      exact hp hpl
    · exact h.plain y r2 e hpl
theorem fit_plain {a b : Str} (h : Fit a b) (e : b = "plain") : a = "plain" := h.elim id fun z => z.trans e
theorem kd_in {p : Pr} (wk : WfK p.kinds) {x : Str} (h : x ∈ keys p.kinds) : kd p.kinds x = kindIn p.kinds x := by
  unfold kd
  rw [if_neg]
  intro e
  exact wk.ne (e ▸ h)
section
variable {S : List Str} {ks0 : List (Str × Str)} {p q : Pr} {F O : Fm}
theorem begin_ok (h : OkPr p) : FOk (e0 :: p.params) p.kinds p (begin_ p) := by
  have hk : keys (begin_ p).table = keys p.kinds := keys_self _ _
  refine ⟨⟨by rw [hk]; exact h.wk.nd, fun y => by rw [hk]; exact Iff.rfl, by rw [hk]; exact h.wk.ne, ?_, ?_, List.mem_cons_self, fun x r e => ?_⟩, rfl, rfl, rfl, hk, fun x r e hp => ?_⟩
  · show ((keys p.kinds).map _).length ≤ 8
    unfold keys
    rw [List.length_map, List.length_map]
    exact h.wk.len
  · have := h.ps.2.1
    simp only [List.length_cons]
    omega
  · have hm := lk_mem e
    obtain ⟨n, _, en⟩ := List.mem_map.mp hm
    cases en
    refine ⟨by simp [keys], fun y hy => ?_, by simp⟩
    have : y = if x ∈ p.params then x else e0 := by simpa [keys] using hy
    rw [this]
    split
    · rename_i hx; exact List.mem_cons_of_mem _ hx
    · exact List.mem_cons_self
  · have hm := lk_mem e
    obtain ⟨n, hn, en⟩ := List.mem_map.mp hm
    cases en
    refine ⟨_, _, rfl, ?_⟩
    split
    · rw [kd_in h.wk hn]; exact hp
    · exact kd_zero _
theorem after_ok (h : FOk S ks0 p F) (wk : WfK p.kinds) {s : Sm} (hs : SmIn (keys p.kinds) s) (hk : KindOk p.kinds s) (syn : SynSm s) : FOk S ks0 p (after_ F s) := by
  cases s with
  | skip => exact h
  | call f as rs => exact h
  | sets xs =>
    have go : ∀ (l : List (Str × Str × Int)) (t : Tab), (∀ x ∈ l, x ∈ xs) → FOk S ks0 p { F with table := t } → FOk S ks0 p { F with table := l.foldl (fun t x => Fp.put t x.1 (joined (kindIn F.kinds x.1) (moved (dictOf F.table x.2.1) x.2.2))) t } := by
      intro l
      induction l with
      | nil => intro t _ ht; exact ht
      | cons x r ih =>
        intro t hl ht
        have hx := hs x (hl x List.mem_cons_self)
        have hy : Nm (keys F.table) x.2.1 := by rw [h.keys]; exact hx.2
        have hd := h.wf.dict hy
        refine ih _ (fun z hz => hl z (List.mem_cons_of_mem _ hz)) (FOk.put ht (F := { F with table := t }) (by rw [ht.keys]; exact hx.1) (joined_row (h.wf.fewM hy) (moved_ne hd.2.2)) fun hp => ?_)
        have hfit := fit_plain (hk x (hl x List.mem_cons_self)) hp
        obtain ⟨z, a, ez, hz⟩ := h.pl hy hfit
        exact ⟨z, a + x.2.2, by rw [ez, moved_one, joined_one], hz⟩
    exact go xs F.table (fun _ hx => hx) h
  | mx hi x ps =>
    have hx := hs.1
    refine FOk.put h (by rw [h.keys]; exact hx) (joined_row (fun z hz => ?_) ?_) fun hp => ?_
    · obtain ⟨p0, hp0, hz⟩ := List.mem_flatMap.mp hz
      exact h.wf.fewM (by rw [h.keys]; exact hs.2 p0 hp0) z hz
    · obtain ⟨p0, hp0⟩ := List.exists_mem_of_ne_nil _ syn.2.1
      have hy : Nm (keys F.table) p0.1 := by rw [h.keys]; exact hs.2 p0 hp0
      have hd := moved_ne (c := p0.2) (h.wf.dict hy).2.2
      obtain ⟨z, hz⟩ := List.exists_mem_of_ne_nil _ hd
      exact List.ne_nil_of_mem (List.mem_flatMap.mpr ⟨p0, hp0, hz⟩)
    · exfalso
      rw [hk.1] at hp
      cases hi
      · exact absurd hp (show ("low" : Str) ≠ "plain" from by decide +kernel)
      · exact absurd hp (show ("high" : Str) ≠ "plain" from by decide +kernel)
theorem zip_sw {α β : Type} : ∀ {l : List α} {m : List β} {x : α × β}, x ∈ l.zip m → (x.2, x.1) ∈ m.zip l
  | [], _, _, h => by simp at h
  | _ :: _, [], _, h => by simp at h
  | a :: r, b :: t, x, h => by
    rw [List.zip_cons_cons] at h ⊢
    rcases List.mem_cons.mp h with e | h
    · rw [e]; exact List.mem_cons_self
    · exact List.mem_cons_of_mem _ (zip_sw h)
/-- what is handed: as a row seen from ks0 -/
theorem handed_ok (h : FOk S ks0 p F) {as : List Part} (has : ∀ y ∈ as, Nm (keys p.kinds) y.1) {rs : List Str} (cf : CallFit p q as rs) (okq : OkPr q) {z : Str} (hz : z = e0 ∨ z ∈ q.params) :
    ∃ r, lk (handed F.table as q.params) z = some r ∧ ((keys r).Nodup ∧ (∀ y ∈ keys r, y ∈ S) ∧ r ≠ []) ∧ (kd q.kinds z = "plain" → ∃ s a, r = [(s, a)] ∧ kd ks0 s = "plain") := by
  have has' : ∀ y ∈ as, Nm (keys F.table) y.1 := by rw [h.keys]; exact has
  obtain ⟨r, er, hr, _, hs⟩ := handed_row h.wf has' (z := z) cf.la hz
  refine ⟨r, er, ?_, fun hp => ?_⟩
  · rcases hr with ⟨e, _⟩ | ⟨x, hx, _, e⟩
    · refine ⟨by rw [e]; simp [keys], hs, by rw [e]; simp⟩
    · have hm : x.2 ∈ as := (List.of_mem_zip (a := x.1) (b := x.2) hx).2
      exact ⟨by rw [e]; exact mkD_nd _, hs, by rw [e]; exact mkD_ne (moved_ne (h.wf.dict (has' _ hm)).2.2)⟩
  · rcases hr with ⟨e, _⟩ | ⟨x, hx, ez, e⟩
    · exact ⟨e0, 0, e, kd_zero _⟩
    · have hm : x.2 ∈ as := (List.of_mem_zip (a := x.1) (b := x.2) hx).2
      have hfit := cf.fa _ (zip_sw hx)
      have hpl := fit_plain hfit (show kd q.kinds x.1 = "plain" by rw [ez]; exact hp)
      obtain ⟨s, a, es, hks⟩ := h.pl (has' _ hm) hpl
      exact ⟨s, a + x.2.2, by rw [e, es, moved_one, mkD_one], hks⟩
theorem behind_ok (h : FOk S ks0 p F) (wk : WfK p.kinds) {f : Str} {as : List Part} {rs : List Str} (hs : SmIn (keys p.kinds) (.call f as rs)) (cf : CallFit p q as rs) (okq : OkPr q) (ho : FOk (e0 :: q.params) q.kinds q O) : FOk S ks0 p (behind_ F as rs O) := by
  have go : ∀ (l : List (Str × Str)) (t : Tab), (∀ x ∈ l, x ∈ rs.zip O.results) → FOk S ks0 p { F with table := t } → FOk S ks0 p { F with table := l.foldl (fun t x => Fp.put t x.1 (ledRow (kindIn F.kinds x.1) (dictOf O.table x.2) (handed F.table as O.params))) t } := by
    intro l
    induction l with
    | nil => intro t _ ht; exact ht
    | cons x r ih =>
      intro t hl ht
      have hxm := hl x List.mem_cons_self
      rw [ho.results] at hxm
      have hm2 := List.of_mem_zip (a := x.1) (b := x.2) hxm
      have hx := hs.2 _ hm2.1
      have hres : x.2 ∈ keys q.kinds := okq.rs.2.2 _ hm2.2
      have hresO : Nm (keys O.table) x.2 := .inr (by rw [ho.keys]; exact hres)
      have hd := ho.wf.dict hresO
      rw [show O.params = q.params from ho.params] at *
      have hin : ∀ p0 ∈ dictOf O.table x.2, ∃ r, lk (handed F.table as q.params) p0.1 = some r ∧ ((keys r).Nodup ∧ (∀ y ∈ keys r, y ∈ S) ∧ r ≠ []) ∧ (kd q.kinds p0.1 = "plain" → ∃ s a, r = [(s, a)] ∧ kd ks0 s = "plain") := fun p0 hp0 => by
        have := hd.2.1 p0.1 (List.mem_map.mpr ⟨p0, hp0, rfl⟩)
        exact handed_ok h hs.1 cf okq (List.mem_cons.mp this)
      refine ih _ (fun z hz => hl z (List.mem_cons_of_mem _ hz)) (FOk.put ht (F := { F with table := t }) (by rw [ht.keys]; exact hx) ?_ fun hp => ?_)
      · refine joined_row (fun z hz => ?_) ?_
        · obtain ⟨p0, hp0, hz⟩ := List.mem_flatMap.mp hz
          obtain ⟨r0, e0', hr0, _⟩ := hin p0 hp0
          rw [e0'] at hz
          have : z.1 ∈ (moved r0 p0.2).map (·.1) := List.mem_map.mpr ⟨z, hz, rfl⟩
          rw [moved_keys] at this
          exact hr0.2.1 _ this
        · obtain ⟨p0, hp0⟩ := List.exists_mem_of_ne_nil _ hd.2.2
          obtain ⟨r0, e0', hr0, _⟩ := hin p0 hp0
          obtain ⟨z, hz⟩ := List.exists_mem_of_ne_nil _ (moved_ne (c := p0.2) hr0.2.2)
          exact List.ne_nil_of_mem (List.mem_flatMap.mpr ⟨p0, hp0, by rw [e0']; exact hz⟩)
      · have hfit := cf.fr _ (zip_sw hxm)
        have h1 : kd q.kinds x.2 = "plain" := fit_plain hfit (by rw [kd_in wk hx]; exact hp)
        obtain ⟨s, a, es, hks⟩ := ho.pl hresO h1
        obtain ⟨r0, e0', _, hr0⟩ := hin (s, a) (by rw [es]; exact List.mem_cons_self)
        obtain ⟨s2, a2, es2, hks2⟩ := hr0 hks
        refine ⟨s2, a2 + a, ?_, hks2⟩
        unfold ledRow
        rw [es]
        simp only [List.flatMap_cons, List.flatMap_nil, List.append_nil]
        rw [e0', es2]
        exact joined_one _ _ _
  exact go _ F.table (fun _ hx => hx) h
theorem entered_ok (h : FOk S ks0 p F) {f : Str} {as : List Part} {rs : List Str} (hs : SmIn (keys p.kinds) (.call f as rs)) (cf : CallFit p q as rs) (okq : OkPr q) : FOk S ks0 q (entered_ F as q) := by
  have hk : keys (entered_ F as q).table = keys q.kinds := keys_self _ _
  have hrow : ∀ x r, lk (entered_ F as q).table x = some r → x ∈ keys q.kinds ∧ ((keys r).Nodup ∧ (∀ y ∈ keys r, y ∈ S) ∧ r ≠ []) ∧ (kindIn q.kinds x = "plain" → ∃ s a, r = [(s, a)] ∧ kd ks0 s = "plain") := fun x r e => by
    have hm := lk_mem e
    obtain ⟨n, hn, en⟩ := List.mem_map.mp hm
    cases en
    have hz : (if x ∈ q.params then x else e0) = e0 ∨ (if x ∈ q.params then x else e0) ∈ q.params := by
      split
      · rename_i h; exact .inr h
      · exact .inl rfl
    obtain ⟨r0, e0', hr0, hp0⟩ := handed_ok h hs.1 cf okq hz
    rw [e0']
    refine ⟨hn, hr0, fun hp => hp0 ?_⟩
    split
    · rw [kd_in okq.wk hn]; exact hp
    · exact kd_zero _
  refine ⟨⟨by rw [hk]; exact okq.wk.nd, fun y => by rw [hk]; exact Iff.rfl, by rw [hk]; exact okq.wk.ne, ?_, h.wf.few, h.wf.z, fun x r e => (hrow x r e).2.1⟩, rfl, rfl, rfl, hk, fun x r e => (hrow x r e).2.2⟩
  show ((keys q.kinds).map _).length ≤ 8
  unfold keys
  rw [List.length_map, List.length_map]
  exact okq.wk.len
end
end Fp

/-! ## FpPlays -/
set_option Elab.async false
set_option linter.all false
set_option maxRecDepth 100000
set_option maxHeartbeats 2000000
namespace Fp
open PySem PySem.Spec PyProof.Rows L2
variable {P : Program} {w : World} {K : PySem.W.Frag} {mg : Str → Option Value} {base : Heap}
/-! ### steps -/
def rStep : Nat → Rep Step
  | _, _, v, .way i => v = .int (i : Nat)
  | n + 1, H, v, .call i r => ∃ a b od xs, v = .ref a ∧ H a = some (.tup [.str "call", .int (i : Nat), .ref b]) ∧ H b = some (.frz od (.lst xs)) ∧ Paired (rStep n H) xs r
  | 0, _, _, .call _ _ => False
theorem rStep_mono : ∀ (n : Nat) {H H' : Hp} {v : V} {s : Step}, Keep H H' → rStep n H v s → rStep n H' v s
  | 0, _, _, _, .way _, _, h => h
  | _ + 1, _, _, _, .way _, _, h => h
  | n + 1, _, _, _, .call i r, k, ⟨a, b, od, xs, e, h1, h2, p⟩ => ⟨a, b, od, xs, e, k _ _ trivial h1, k _ _ trivial h2, L2.Paired.mapP p fun _ _ q => rStep_mono n k q⟩
  | 0, _, _, _, .call _ _, _, h => h
instance {n : Nat} : Mono (rStep n) := ⟨fun k h => rStep_mono n k h⟩
def WStep (pg : Pg) : Nat → Str → Step → Prop
  | _, f, .way i => ∃ x, (prOf pg f).ways[i]? = some x ∧ isCall x.s = false
  | n + 1, f, .call i r => ∃ x g as rs, (prOf pg f).ways[i]? = some x ∧ x.s = .call g as rs ∧ ∀ s ∈ r, WStep pg n g s
  | 0, _, .call _ _ => False
theorem wayS_of {p : Pr} {i : Nat} {x : Wy} (h : p.ways[i]? = some x) : wayS p i = x.s := by
  unfold wayS
  rw [h]
  rfl
theorem prOf_some {pg : Pg} {f : Str} {p : Pr} (h : lk pg f = some p) : prOf pg f = p := by
  unfold prOf
  rw [h]
  rfl
theorem OkPg.at {pg : Pg} (ok : OkPg pg) {f : Str} (h : f ∈ keys pg) : lk pg f = some (prOf pg f) ∧ OkPr (prOf pg f) := by
  obtain ⟨p, e⟩ := lk_some h
  rw [prOf_some e]
  exact ⟨e, ok.pr _ (lk_mem e)⟩
/-- what a call of a way tells -/
theorem OkPg.call {pg : Pg} (ok : OkPg pg) {f : Str} (h : f ∈ keys pg) {i : Nat} {x : Wy} (hi : (prOf pg f).ways[i]? = some x) {g : Str} {as : List Part} {rs : List Str} (hx : x.s = .call g as rs) :
    g ∈ keys pg ∧ CallFit (prOf pg f) (prOf pg g) as rs ∧ SmIn (keys (prOf pg f).kinds) (.call g as rs) ∧ SynSm (.call g as rs) := by
  obtain ⟨e, okp⟩ := ok.at h
  have hm := List.mem_of_getElem? hi
  obtain ⟨q, eq, cf⟩ := ok.cl _ (lk_mem e) x hm g as rs hx
  obtain ⟨_, _, h3, h4, _⟩ := okp.ws x hm
  rw [hx] at h3 h4
  rw [prOf_some eq]
  exact ⟨lk_key eq, cf, h4, h3⟩
theorem WStep.way {pg : Pg} {n : Nat} {f : Str} {i : Nat} (h : WStep pg n f (.way i)) : ∃ x, (prOf pg f).ways[i]? = some x ∧ isCall x.s = false := by
  cases n <;> exact h
theorem stepF_way (pg : Pg) (n : Nat) (f : Str) (F : Fm) (i : Nat) : stepF pg n f F (.way i) = after_ F (wayS (prOf pg f) i) := by
  cases n <;> rfl
theorem step_ok {pg : Pg} (ok : OkPg pg) : ∀ (n : Nat) {S : List Str} {ks0 : List (Str × Str)} {f : Str} {F : Fm} {s : Step}, f ∈ keys pg → FOk S ks0 (prOf pg f) F → WStep pg n f s → FOk S ks0 (prOf pg f) (stepF pg n f F s) := by
  intro n
  have wy : ∀ {n : Nat} {S : List Str} {ks0 : List (Str × Str)} {f : Str} {F : Fm} {i : Nat}, f ∈ keys pg → FOk S ks0 (prOf pg f) F → WStep pg n f (.way i) → FOk S ks0 (prOf pg f) (stepF pg n f F (.way i)) := by
    intro n S ks0 f F i hf h hw
    obtain ⟨x, hx, _⟩ := hw.way
    rw [stepF_way, wayS_of hx]
    obtain ⟨_, okp⟩ := ok.at hf
    obtain ⟨_, _, h3, h4, h5, _⟩ := okp.ws x (List.mem_of_getElem? hx)
    exact after_ok h okp.wk h4 h5 h3
  induction n with
  | zero =>
    intro S ks0 f F s hf h hw
    cases s with
    | way i => exact wy hf h hw
    | call i r => exact hw.elim
  | succ n ih =>
    intro S ks0 f F s hf h hw
    cases s with
    | way i => exact wy hf h hw
    | call i r =>
      obtain ⟨x, g, as, rs, hx, hc, hr⟩ := hw
      obtain ⟨hg, cf, sin, syn⟩ := ok.call hf hx hc
      obtain ⟨_, okp⟩ := ok.at hf
      obtain ⟨_, okq⟩ := ok.at hg
      have run : ∀ (l : List Step) (G : Fm), (∀ s ∈ l, WStep pg n g s) → FOk (e0 :: (prOf pg g).params) (prOf pg g).kinds (prOf pg g) G → FOk (e0 :: (prOf pg g).params) (prOf pg g).kinds (prOf pg g) (l.foldl (stepF pg n g) G) := by
        intro l
        induction l with
        | nil => intro G _ hG; exact hG
        | cons s r ih2 => intro G hl hG; exact ih2 _ (fun z hz => hl z (List.mem_cons_of_mem _ hz)) (ih hg hG (hl s List.mem_cons_self))
      have := behind_ok h okp.wk sin cf okq (run r _ hr (begin_ok okq))
      show FOk S ks0 (prOf pg f) (match wayS (prOf pg f) i with | .call g as rs => behind_ F as rs (r.foldl (stepF pg n g) (begin_ (prOf pg g))) | _ => F)
      rw [wayS_of hx, hc]
      exact this
theorem run_ok {pg : Pg} (ok : OkPg pg) {n : Nat} {S : List Str} {ks0 : List (Str × Str)} {f : Str} (hf : f ∈ keys pg) : ∀ (l : List Step) (G : Fm), (∀ s ∈ l, WStep pg n f s) → FOk S ks0 (prOf pg f) G → FOk S ks0 (prOf pg f) (l.foldl (stepF pg n f) G)
  | [], _, _, h => h
  | s :: r, G, hl, h => run_ok ok hf r _ (fun z hz => hl z (List.mem_cons_of_mem _ hz)) (step_ok ok n hf h (hl s List.mem_cons_self))
/-! ### is_marked -/
/-- slots: 0 step, 1 word -/
abbrev N_is_marked : List Str := [Str.ofString "step", Str.ofString "word"]
theorem sc_is_marked : FnScope N_is_marked [Str.ofString "step", Str.ofString "word"] (defScope s_is_marked) := ⟨rfl, rfl, rfl, by decide +kernel, rfl, by decide +kernel, by decide +kernel⟩
def S_is_marked : Sq := fun vs H Q => ∃ (v : V) (wd : Str), vs = [v, .str wd] ∧ ((∃ i, v = .int i ∧ Q (.bl false) H) ∨ ∃ a z i y, v = .ref a ∧ H a = some (.tup [.str z, i, y]) ∧ Q (.bl (decide (z = wd))) H)
theorem r_is_marked (T : Tx K mg) : FnR P w K mg base CX0 1 (a_is_marked K) (sp S_is_marked) := by
  refine fr_of (S := S_is_marked) (N := N_is_marked) (f_is_marked T) sc_is_marked (fun vs H Q h => by first | (obtain ⟨rfl, _⟩ := h; rfl) | (obtain ⟨_, rfl, _⟩ := h; rfl) | (obtain ⟨_, _, rfl, _⟩ := h; rfl) | (obtain ⟨_, _, _, rfl, _⟩ := h; rfl) | (obtain ⟨_, _, _, _, rfl, _⟩ := h; rfl) | (obtain ⟨_, _, _, _, _, rfl, _⟩ := h; rfl) | (obtain ⟨_, _, _, _, _, _, rfl, _⟩ := h; rfl) | (obtain ⟨_, _, _, _, _, _, _, rfl, _⟩ := h; rfl) | (obtain ⟨_, _, _, _, _, _, _, _, rfl, _⟩ := h; rfl) | (obtain ⟨_, _, _, _, _, _, _, _, _, rfl, _⟩ := h; rfl) | (obtain ⟨_, _, _, _, _, _, _, _, _, _, rfl, _⟩ := h; rfl) | (obtain ⟨_, _, _, _, _, _, _, _, _, _, _, rfl, _⟩ := h; rfl) | (obtain ⟨_, _, _, _, _, _, _, _, _, _, _, _, rfl, _⟩ := h; rfl) | (obtain ⟨_, _, _, _, _, _, _, _, _, _, _, _, _, rfl, _⟩ := h; rfl) | (obtain ⟨_, _, _, _, _, _, _, _, _, _, _, _, _, _, rfl, _⟩ := h; rfl) | (obtain ⟨_, _, _, _, _, _, _, _, _, _, _, _, _, _, _, rfl, _⟩ := h; rfl) | (obtain ⟨_, _, _, _, _, _, _, _, _, _, _, _, _, _, _, _, rfl, _⟩ := h; rfl)) (fun _ _ _ _ _ _ us hl => match us, hl with | [_, _], _ => rfl) (fun cdv A outer s H vs Q E hr h => ?_)
  obtain ⟨v, wd, rfl, h⟩ := h
  refine ⟨_, (pss_one (ps_ret (pe_and (pe_callB (cIsi K rfl) rfl (n_isinstance T) (by decide +kernel) (pa_cons (pv 0) (pa_cons (pe_bltn (v := .ty "tuple") rfl (n_tuple T) (by decide +kernel) rfl) pa_nil))) (pe_and (pe_cmpR op_eq (pe_callB (cLen K rfl) rfl (n_len T) (by decide +kernel) (pa_cons (pv 0) pa_nil)) pe_int (nomark _)) (pe_and (pe_callB (cIsi K rfl) rfl (n_isinstance T) (by decide +kernel) (pa_cons (pe_ix (ixT K rfl) (pv 0) pe_int (fun _ _ => rfl)) (pa_cons (pe_bltn (v := .ty "str") rfl (n_str T) (by decide +kernel) rfl) pa_nil))) (pe_one (pe_cmpR op_eq (pe_ix (ixT K rfl) (pv 0) pe_int (fun _ _ => rfl)) (pv 1) (nomark _)))))))), ?_⟩
  rcases h with ⟨i, rfl, q⟩ | ⟨a, z, i, y, rfl, ha, q⟩
  · exact ⟨_, rfl, _, _, _, _, _, rfl, .ty _, .base (.int _), kt_it, false, rfl, iteF q⟩
  · refine ⟨_, rfl, _, _, _, _, _, rfl, .ty _, .base (.tup ha), kt_tt, true, rfl, iteT ?_⟩
    refine ⟨_, rfl, _, _, rfl, .inr ⟨_, .inl (.inl ha), rfl⟩, rfl, true, bT rfl, iteT ?_⟩
    refine ⟨_, rfl, _, _, _, _, rfl, rfl, .inl (.inl ha), at0, _, _, _, _, _, rfl, .ty _, .base (.str _), kt_ss, true, rfl, iteT ?_⟩
    refine ⟨_, rfl, _, _, _, _, rfl, rfl, .inl (.inl ha), at0, _, rfl, rfl, ?_⟩
    rw [← dstr] at q
    exact q
/-! ### form_behind, form_of_run -/
def S_fb (K : PySem.W.Frag) (n : Nat) : Sq := fun vs H Q => ∃ (g fv sv : V) (first f : Str) (pg : Pg) (F : Fm) (s : Step) (S : List Str) (ks0 : List (Str × Str)), vs = [g, .str f, fv, sv] ∧ rPg K H g (first, pg) ∧ OkPg pg ∧ f ∈ keys pg ∧ rFm K H fv F ∧ FOk S ks0 (prOf pg f) F ∧
  rStep n H sv s ∧ WStep pg n f s ∧ ∀ v' H', Same H H' → rFm K H' v' (stepF pg n f F s) → Q v' H'
def S_fr (K : PySem.W.Frag) (n : Nat) : Sq := fun vs H Q => ∃ (g rv : V) (first f : Str) (pg : Pg) (r : List Step), vs = [g, .str f, rv] ∧ rPg K H g (first, pg) ∧ OkPg pg ∧ f ∈ keys pg ∧ rLst (rStep n) H rv r ∧ (∀ s ∈ r, WStep pg n f s) ∧
  ∀ v' H', Same H H' → rFm K H' v' (runF pg n f r) → Q v' H'
/-- the callee one level down; none at the ground -/
def S_fr' (K : PySem.W.Frag) : Nat → Sq
  | 0 => fun _ _ _ => False
  | n + 1 => S_fr K n
theorem fr_no {k : Nat} {f : Addr} : FnR P w K mg base CX0 k f (sp fun _ _ _ => False) := fun _ _ _ _ _ _ _ _ _ _ _ h => h.elim
theorem row9 {S : List Str} {F : Fm} (wf : WfF S F) {x : Str} {r : Row} (h : lk F.table x = some r) : r.length ≤ 9 := Nat.le_trans (row_len (wf.row x r h).1 (wf.row x r h).2.1 wf.few) (by decide)
/-- slots: 0 program, 1 name, 2 form, 3 step, 4 statement -/
abbrev N_form_behind : List Str := [Str.ofString "program", Str.ofString "name", Str.ofString "form", Str.ofString "step", Str.ofString "statement"]
theorem sc_form_behind : FnScope N_form_behind [Str.ofString "program", Str.ofString "name", Str.ofString "form", Str.ofString "step"] (defScope s_form_behind) := ⟨rfl, rfl, rfl, by decide +kernel, rfl, by decide +kernel, by decide +kernel⟩
theorem r_form_behind (n : Nat) (T : Tx K mg) (c_Procedure_way : CalS P w K mg base 2 (cP K) "way" (S_Procedure_way K)) (c_Program_getitem : CalS P w K mg base 2 (cG K) "__getitem__" (S_Program_getitem K)) (c_Form_behind : CalF P w K mg base 4 (cF K) "behind" (S_Form_behind K))
    (c_Form_after : CalF P w K mg base 4 (cF K) "after" (S_Form_after K)) (c_form_of_run : Cal P w K mg base (4 + 2 * n) "form_of_run" (S_fr' K n)) : FnR P w K mg base CX0 (4 + 2 * n + 1) (a_form_behind K) (sp (S_fb K n)) := by
  refine fr_of (S := (S_fb K n)) (N := N_form_behind) (f_form_behind T) sc_form_behind (fun vs H Q h => by first | (obtain ⟨rfl, _⟩ := h; rfl) | (obtain ⟨_, rfl, _⟩ := h; rfl) | (obtain ⟨_, _, rfl, _⟩ := h; rfl) | (obtain ⟨_, _, _, rfl, _⟩ := h; rfl) | (obtain ⟨_, _, _, _, rfl, _⟩ := h; rfl) | (obtain ⟨_, _, _, _, _, rfl, _⟩ := h; rfl) | (obtain ⟨_, _, _, _, _, _, rfl, _⟩ := h; rfl) | (obtain ⟨_, _, _, _, _, _, _, rfl, _⟩ := h; rfl) | (obtain ⟨_, _, _, _, _, _, _, _, rfl, _⟩ := h; rfl) | (obtain ⟨_, _, _, _, _, _, _, _, _, rfl, _⟩ := h; rfl) | (obtain ⟨_, _, _, _, _, _, _, _, _, _, rfl, _⟩ := h; rfl) | (obtain ⟨_, _, _, _, _, _, _, _, _, _, _, rfl, _⟩ := h; rfl) | (obtain ⟨_, _, _, _, _, _, _, _, _, _, _, _, rfl, _⟩ := h; rfl) | (obtain ⟨_, _, _, _, _, _, _, _, _, _, _, _, _, rfl, _⟩ := h; rfl) | (obtain ⟨_, _, _, _, _, _, _, _, _, _, _, _, _, _, rfl, _⟩ := h; rfl) | (obtain ⟨_, _, _, _, _, _, _, _, _, _, _, _, _, _, _, rfl, _⟩ := h; rfl) | (obtain ⟨_, _, _, _, _, _, _, _, _, _, _, _, _, _, _, _, rfl, _⟩ := h; rfl)) (fun _ _ _ _ _ _ us hl => match us, hl with | [_, _, _, _], _ => rfl) (fun cdv A outer s H vs Q E hr h => ?_)
  obtain ⟨g, fv, sv, first, f, pg, F, s, S, ks0, rfl, hg, ok, hf, hF, fo, hs, hw, q⟩ := h
  obtain ⟨ga, rfl, gdx, gd, hgs, hgd⟩ := id hg
  obtain ⟨fa, rfl, dx, k, p, r, t, hfa, _⟩ := id hF
  obtain ⟨ep, okp⟩ := ok.at hf
  refine ⟨_, (pss_cons (ps_if (pt_val (pe_callB (cIsi K rfl) rfl (n_isinstance T) (by decide +kernel) (pa_cons (pv 3) (pa_cons (pe_bltn (v := .ty "tuple") rfl (n_tuple T) (by decide +kernel) rfl) pa_nil)))) (pss_cons (ps_set (i := 4) sc_form_behind.nd rfl (.inl rfl) (pe_ix (ixT K rfl) (pmethS c_Procedure_way hr (by omega) (pgetG c_Program_getitem hr (by omega) (pv 0) (pv 1)) (pa_cons (pe_ix (ixT K rfl) (pv 3) pe_int (fun _ _ => rfl)) pa_nil)) pe_int (fun _ _ => rfl)))
        (pss_one (ps_ret (pmeth c_Form_behind hr (by omega) (pv 2) (pa_cons (pv 4) (pa_cons (pcall c_form_of_run hr (by omega) rfl (pa_cons (pv 0) (pa_cons (pe_ix (ixT K rfl) (pv 4) pe_int (fun _ _ => rfl)) (pa_cons (pe_ix (ixT K rfl) (pv 3) pe_int (fun _ _ => rfl)) pa_nil)))) pa_nil)))))) pss_nil)
      (pss_one (ps_ret (pmeth c_Form_after hr (by omega) (pv 2) (pa_cons (pe_ix (ixT K rfl) (pmethS c_Procedure_way hr (by omega) (pgetG c_Program_getitem hr (by omega) (pv 0) (pv 1)) (pa_cons (pv 3) pa_nil)) pe_int (fun _ _ => rfl)) pa_nil))))), ?_⟩
  cases s with
  | way i =>
    have ev : sv = .int (i : Nat) := by cases n <;> exact hs
    subst ev
    obtain ⟨x, hx, hnc⟩ := hw.way
    obtain ⟨_, _, h3, h4, h5, _⟩ := okp.ws x (List.mem_of_getElem? hx)
    refine ⟨_, rfl, _, _, _, _, _, rfl, .ty _, .base (.int _), kt_it, false, rfl, iteF ?_⟩
    refine ⟨_, rfl, fa, dx, _, rfl, hfa, ff_no (by decide +kernel), ?_⟩
    refine ⟨_, rfl, _, rfl, ga, gdx, _, rfl, hgs, _, first, f, pg, prOf pg f, rfl, hg, ep, fun v1 hv1 => ?_⟩
    obtain ⟨pa, rfl, pdx, pk, pu, pr, pw, hps, _⟩ := id hv1
    refine ⟨pa, pdx, _, rfl, hps, _, rfl, _, prOf pg f, i, x, rfl, hv1, hx, fun v2 ⟨wa, wu, e2, hwa, hwu⟩ => ?_⟩
    subst e2
    refine ⟨_, _, _, _, rfl, rfl, .inl (.inl hwa), at2, _, _, F, x.s, S, rfl, hF, hwu, h3, fo.wf, by rw [fo.keys]; exact h4, hnc, fun v' H' s' hv' => q _ _ s' ?_⟩
    rw [stepF_way, wayS_of hx]
    exact hv'
  | call i r =>
    cases n with
    | zero => exact hw.elim
    | succ n =>
      obtain ⟨a, b, od, xs, rfl, ha, hb, pb⟩ := hs
      obtain ⟨x, g, as, rs, hx, hc, hr'⟩ := hw
      obtain ⟨hgk, cf, sin, syn⟩ := ok.call hf hx hc
      obtain ⟨_, okq⟩ := ok.at hgk
      have hO : FOk (e0 :: (prOf pg g).params) (prOf pg g).kinds (prOf pg g) (runF pg n g r) := run_ok ok hgk r _ hr' (begin_ok okq)
      refine ⟨_, rfl, _, _, _, _, _, rfl, .ty _, .base (.tup ha), kt_tt, true, rfl, iteT ?_⟩
      refine ⟨_, rfl, _, rfl, ga, gdx, _, rfl, hgs, _, first, f, pg, prOf pg f, rfl, hg, ep, fun v1 hv1 => ?_⟩
      obtain ⟨pa, rfl, pdx, pk, pu, pr, pw, hps, _⟩ := id hv1
      refine ⟨pa, pdx, _, rfl, hps, _, rfl, _, _, _, _, rfl, rfl, .inl (.inl ha), at1, _, prOf pg f, i, x, rfl, hv1, hx, fun v2 ⟨wa, wu, e2, hwa, hwu⟩ => ?_⟩
      subst e2
      rw [hc] at hwu
      obtain ⟨ca, cy, cz, rfl, hca, hcy, hcz⟩ := id hwu
      refine ⟨_, _, _, _, rfl, rfl, .inl (.inl hwa), at2, ?_⟩
      refine ⟨_, rfl, fa, dx, _, rfl, hfa, ff_no (by decide +kernel), _, rfl, ?_⟩
      refine ⟨_, rfl, _, rfl, _, _, _, _, rfl, rfl, .inl (.inl hca), at1, _, rfl, _, _, _, _, rfl, rfl, .inl (.inl ha), at2, ?_⟩
      refine ⟨_, _, first, g, pg, r, rfl, hg, ok, hgk, ⟨b, od, xs, rfl, hb, pb⟩, hr', fun v3 H3 s3 hv3 => ?_⟩
      refine ⟨_, _, _, F, runF pg n g r, g, as, rs, S, rfl, mo (kp_of s3) hF, mo (kp_of s3) hwu, hv3, fo.wf, by rw [fo.keys]; exact sin.1, ?_, ?_, by rw [fo.keys]; exact sin.2, by rw [hO.params]; exact cf.la, ?_, hO.wf.ne, fun y r0 e => ⟨row9 hO.wf e, fun z hz => ?_⟩, fun v' H' s' hv' => q _ _ (s3.trans s') ?_⟩
      · rw [cf.la]; have := okq.ps.2.1; omega
      · exact syn.2.2.1
      · intro z hz
        rw [hO.results] at hz
        rw [hO.keys]
        exact okq.rs.2.2 z hz
      · have := (hO.wf.row y r0 e).2.1 z hz
        rw [hO.params]
        exact List.mem_cons.mp this
      · show rFm K H' v' (match wayS (prOf pg f) i with | .call g as rs => behind_ F as rs (r.foldl (stepF pg n g) (begin_ (prOf pg g))) | _ => F)
        rw [wayS_of hx, hc]
        exact hv'
/-- slots: 0 program, 1 name, 2 run, 3 form, 4 step -/
abbrev N_form_of_run : List Str := [Str.ofString "program", Str.ofString "name", Str.ofString "run", Str.ofString "form", Str.ofString "step"]
theorem sc_form_of_run : FnScope N_form_of_run [Str.ofString "program", Str.ofString "name", Str.ofString "run"] (defScope s_form_of_run) := ⟨rfl, rfl, rfl, by decide +kernel, rfl, by decide +kernel, by decide +kernel⟩
theorem r_form_of_run (n : Nat) (T : Tx K mg) (c_Program_getitem : CalS P w K mg base 2 (cG K) "__getitem__" (S_Program_getitem K)) (c_Form_begin : CalT P w K mg base 3 "Form" (cF K) "begin" (S_Form_begin K))
    (c_form_behind : Cal P w K mg base (4 + 2 * n + 1) "form_behind" (S_fb K n)) : FnR P w K mg base CX0 (4 + 2 * (n + 1)) (a_form_of_run K) (sp (S_fr K n)) := by
  rw [show 4 + 2 * (n + 1) = 5 + 2 * n + 1 by omega]
  refine fr_of (S := (S_fr K n)) (N := N_form_of_run) (f_form_of_run T) sc_form_of_run (fun vs H Q h => by first | (obtain ⟨rfl, _⟩ := h; rfl) | (obtain ⟨_, rfl, _⟩ := h; rfl) | (obtain ⟨_, _, rfl, _⟩ := h; rfl) | (obtain ⟨_, _, _, rfl, _⟩ := h; rfl) | (obtain ⟨_, _, _, _, rfl, _⟩ := h; rfl) | (obtain ⟨_, _, _, _, _, rfl, _⟩ := h; rfl) | (obtain ⟨_, _, _, _, _, _, rfl, _⟩ := h; rfl) | (obtain ⟨_, _, _, _, _, _, _, rfl, _⟩ := h; rfl) | (obtain ⟨_, _, _, _, _, _, _, _, rfl, _⟩ := h; rfl) | (obtain ⟨_, _, _, _, _, _, _, _, _, rfl, _⟩ := h; rfl) | (obtain ⟨_, _, _, _, _, _, _, _, _, _, rfl, _⟩ := h; rfl) | (obtain ⟨_, _, _, _, _, _, _, _, _, _, _, rfl, _⟩ := h; rfl) | (obtain ⟨_, _, _, _, _, _, _, _, _, _, _, _, rfl, _⟩ := h; rfl) | (obtain ⟨_, _, _, _, _, _, _, _, _, _, _, _, _, rfl, _⟩ := h; rfl) | (obtain ⟨_, _, _, _, _, _, _, _, _, _, _, _, _, _, rfl, _⟩ := h; rfl) | (obtain ⟨_, _, _, _, _, _, _, _, _, _, _, _, _, _, _, rfl, _⟩ := h; rfl) | (obtain ⟨_, _, _, _, _, _, _, _, _, _, _, _, _, _, _, _, rfl, _⟩ := h; rfl)) (fun _ _ _ _ _ _ us hl => match us, hl with | [_, _, _], _ => rfl) (fun cdv A outer s H vs Q E hr h => ?_)
  obtain ⟨g, rv, first, f, pg, r, rfl, hg, ok, hf, ⟨b, od, xs, rfl, hb, pb⟩, hw, q⟩ := h
  obtain ⟨ga, rfl, gdx, gd, hgs, hgd⟩ := id hg
  obtain ⟨ep, okp⟩ := ok.at hf
  refine ⟨_, (pss_cons (ps_set (i := 3) sc_form_of_run.nd rfl (.inl rfl) (pstat c_Form_begin hr (by omega) rfl (pa_cons (pgetG c_Program_getitem hr (by omega) (pv 0) (pv 1)) pa_nil)))
      (pss_cons (ps_for PassesOwn.never rfl (piList K rfl (pv 2)) (pg_name (i := 4) sc_form_of_run.nd rfl (.inl rfl)) (pss_one (ps_set (i := 3) sc_form_of_run.nd rfl (.inl rfl) (pcall c_form_behind hr (by omega) rfl (pa_cons (pv 0) (pa_cons (pv 1) (pa_cons (pv 3) (pa_cons (pv 4) pa_nil))))))))
      (pss_one (ps_ret (pv 3))))), ?_⟩
  refine ⟨_, rfl, _, rfl, ga, gdx, _, rfl, hgs, _, first, f, pg, prOf pg f, rfl, hg, ep, fun v1 hv1 => ?_⟩
  refine ⟨_, prOf pg f, rfl, hv1, okp.wk, fun v2 H2 s2 hv2 => ?_⟩
  refine ⟨_, rfl, b, rfl, ⟨xs, .inl (.inr ⟨_, s2 _ _ hb⟩)⟩, ?_⟩
  refine for_d (wd_list pb) (fun (d : List Step) (σ : L2.St) (H' : Hp) => ∃ fv y4, σ = [some (V.ref ga), some (V.str f), some (V.ref b), some fv, y4] ∧ Same H H' ∧ rFm K H' fv (d.foldl (stepF pg n f) (begin_ (prOf pg f)))) ?_ ?_ ?_ ?_
  · exact ⟨_, _, rfl, s2, hv2⟩
  · rintro d σ H' ⟨_, _, _, s, _⟩
    exact .inl (.inr ⟨_, s _ _ hb⟩)
  · rintro d s0 rr x σ H1 H' el ⟨fv, y4, rfl, s, hfv⟩ ⟨rfl, hx⟩
    have hd : ∀ z ∈ d, WStep pg n f z := fun z hz => hw z (by rw [el]; exact List.mem_append_left _ hz)
    refine ⟨_, rfl, _, rfl, _, rfl, _, rfl, _, _, _, first, f, pg, _, s0, _, _, rfl, mo (kp_of s) hg, ok, hf, hfv, run_ok ok hf d _ hd (begin_ok okp), mo (kp_of s) hx, hw s0 (by rw [el]; simp), fun v' H3 s3 hv' => ?_⟩
    refine ⟨_, _, rfl, s.trans s3, ?_⟩
    rw [List.foldl_append]
    exact hv'
  · rintro σ H1 ⟨fv, y4, rfl, s, hfv⟩
    exact ⟨_, rfl, q _ _ s hfv⟩
/-- both, at every depth -/
theorem plays_all (T : Tx K mg) (c_Procedure_way : CalS P w K mg base 2 (cP K) "way" (S_Procedure_way K)) (c_Program_getitem : CalS P w K mg base 2 (cG K) "__getitem__" (S_Program_getitem K)) (c_Form_behind : CalF P w K mg base 4 (cF K) "behind" (S_Form_behind K))
    (c_Form_after : CalF P w K mg base 4 (cF K) "after" (S_Form_after K)) (c_Form_begin : CalT P w K mg base 3 "Form" (cF K) "begin" (S_Form_begin K)) : ∀ n, Cal P w K mg base (4 + 2 * n + 1) "form_behind" (S_fb K n) ∧ Cal P w K mg base (4 + 2 * (n + 1)) "form_of_run" (S_fr K n)
  | 0 => by
    have c0 : Cal P w K mg base (4 + 2 * 0) "form_of_run" (S_fr' K 0) := cal_of (f_form_of_run T) (g_form_of_run T) fr_no
    have c1 := cal_of (f_form_behind T) (g_form_behind T) (r_form_behind 0 T c_Procedure_way c_Program_getitem c_Form_behind c_Form_after c0)
    exact ⟨c1, cal_of (f_form_of_run T) (g_form_of_run T) (r_form_of_run 0 T c_Program_getitem c_Form_begin c1)⟩
  | n + 1 => by
    obtain ⟨_, c0⟩ := plays_all T c_Procedure_way c_Program_getitem c_Form_behind c_Form_after c_Form_begin n
    have c1 := cal_of (f_form_behind T) (g_form_behind T) (r_form_behind (n + 1) T c_Procedure_way c_Program_getitem c_Form_behind c_Form_after c0)
    exact ⟨c1, cal_of (f_form_of_run T) (g_form_of_run T) (r_form_of_run (n + 1) T c_Program_getitem c_Form_begin c1)⟩
end Fp

/-! ## FpAt -/
set_option Elab.async false
set_option linter.all false
set_option maxRecDepth 100000
set_option maxHeartbeats 2000000
namespace Fp
open PySem PySem.Spec PyProof.Rows L2
variable {P : Program} {w : World} {K : PySem.W.Frag} {mg : Str → Option Value} {base : Heap}
/-! ### moments -/
def rMo (n : Nat) (H : Hp) : Mom → List V → Prop
  | .last pre, xs => Paired (rStep n H) xs pre
  | .inn pre i m, xs => ∃ ys a b od zs, xs = ys ++ [.ref a] ∧ Paired (rStep n H) ys pre ∧ H a = some (.tup [.str "in", .int (i : Nat), .ref b]) ∧ H b = some (.frz od (.lst zs)) ∧ rMo n H m zs
theorem rMo_mono {n : Nat} {H H' : Hp} (k : Keep H H') : ∀ {m : Mom} {xs : List V}, rMo n H m xs → rMo n H' m xs
  | .last pre, _, h => mos (R := rStep n) k h
  | .inn pre i m, _, ⟨ys, a, b, od, zs, e, p, h1, h2, h3⟩ => ⟨ys, a, b, od, zs, e, mos (R := rStep n) k p, k _ _ trivial h1, k _ _ trivial h2, rMo_mono k h3⟩
def rMom (n : Nat) : Rep Mom := fun H v m => ∃ b od xs, v = .ref b ∧ H b = some (.frz od (.lst xs)) ∧ rMo n H m xs
instance {n : Nat} : Mono (rMom n) := ⟨fun k ⟨b, od, xs, e, h, p⟩ => ⟨b, od, xs, e, k _ _ trivial h, rMo_mono k p⟩⟩
def WMom (pg : Pg) (n : Nat) : Mom → Str → Prop
  | .last pre, f => ∀ s ∈ pre, WStep pg n f s
  | .inn pre i m, f => (∀ s ∈ pre, WStep pg n f s) ∧ ∃ x g as rs, (prOf pg f).ways[i]? = some x ∧ x.s = .call g as rs ∧ WMom pg n m g
def msz : Mom → Nat
  | .last pre => pre.length
  | .inn pre _ m => pre.length + 1 + msz m
theorem call_ne : ("call" : Str) ≠ "in" := by decide +kernel
/-- slots: 0 program, 1 moment, 2 name, 3 place, 4 at, 5 steps, 6 form, 7 step, 8 way -/
abbrev N_form_at : List Str := [Str.ofString "program", Str.ofString "moment", Str.ofString "name", Str.ofString "place", Str.ofString "at", Str.ofString "steps", Str.ofString "form", Str.ofString "step", Str.ofString "way"]
theorem sc_form_at : FnScope N_form_at [Str.ofString "program", Str.ofString "moment"] (defScope s_form_at) := ⟨rfl, rfl, rfl, by decide +kernel, rfl, by decide +kernel, by decide +kernel⟩
def S_form_at (K : PySem.W.Frag) (n : Nat) : Sq := fun vs H Q => ∃ (g mv : V) (first : Str) (pg : Pg) (M : Mom), vs = [g, mv] ∧ rPg K H g (first, pg) ∧ OkPg pg ∧ first ∈ keys pg ∧ rMom n H mv M ∧ WMom pg n M first ∧
  ∀ (a : Addr) (pl : Int) (fv : V) H', Same H H' → H' a = some (.tup [.str (momF pg n first (begin_ (prOf pg first)) M).1, .int pl, fv]) → rFm K H' fv (momF pg n first (begin_ (prOf pg first)) M).2 → Q (.ref a) H'
/-- the head of a moment that is a run's step -/
theorem mom_head {pg : Pg} {n : Nat} {f : Str} {F : Fm} {H : Hp} {m : Mom} {xs : List V} (h : rMo n H m xs) (hw : WMom pg n m f) :
    (m = .last [] ∧ xs = []) ∨ (∃ v s r m', xs = v :: r ∧ rStep n H v s ∧ WStep pg n f s ∧ rMo n H m' r ∧ WMom pg n m' f ∧ msz m = msz m' + 1 ∧ momF pg n f F m = momF pg n f (stepF pg n f F s) m') ∨
    (∃ i m' a b od zs x g as rs, m = .inn [] i m' ∧ xs = [.ref a] ∧ H a = some (.tup [.str "in", .int (i : Nat), .ref b]) ∧ H b = some (.frz od (.lst zs)) ∧ rMo n H m' zs ∧ (prOf pg f).ways[i]? = some x ∧ x.s = .call g as rs ∧ WMom pg n m' g) := by
  cases m with
  | last pre =>
    have h' : Paired (rStep n H) xs pre := h
    cases pre with
    | nil => cases h'; exact .inl ⟨rfl, rfl⟩
    | cons s r =>
      cases h' with
      | @cons v _ r' _ h1 h2 => exact .inr (.inl ⟨v, s, r', .last r, rfl, h1, hw s List.mem_cons_self, h2, fun z hz => hw z (List.mem_cons_of_mem _ hz), rfl, rfl⟩)
  | inn pre i m =>
    obtain ⟨ys, a, b, od, zs, e, p, h1, h2, h3⟩ := h
    obtain ⟨hp, x, g, as, rs, hx, hc, hm⟩ := hw
    cases pre with
    | nil =>
      cases p
      exact .inr (.inr ⟨i, m, a, b, od, zs, x, g, as, rs, rfl, e, h1, h2, h3, hx, hc, hm⟩)
    | cons s r =>
      cases p with
      | @cons v _ r' _ q1 q2 =>
        refine .inr (.inl ⟨v, s, r' ++ [.ref a], .inn r i m, by rw [e]; rfl, q1, hp s List.mem_cons_self, ⟨r', a, b, od, zs, rfl, q2, h1, h2, h3⟩, ⟨fun z hz => hp z (List.mem_cons_of_mem _ hz), x, g, as, rs, hx, hc, hm⟩, by simp [msz]; omega, ?_⟩)
        simp only [momF]
        rw [wayS_of hx, hc]
        rfl
theorem drop_head {α : Type} {ys : List α} {n : Nat} {v : α} {r : List α} (h : ys.drop n = v :: r) : ys[n]? = some v ∧ ys.drop (n + 1) = r ∧ n < ys.length := by
  have hlt : n < ys.length := by
    rcases Nat.lt_or_ge n ys.length with q | q
    · exact q
    · rw [List.drop_eq_nil_of_le q] at h; cases h
  rw [List.drop_eq_getElem_cons hlt] at h
  injection h with h1 h2
  exact ⟨by rw [List.getElem?_eq_getElem hlt, h1], h2, hlt⟩
/-- the loop's state: k steps are left -/
def AtInv (K : PySem.W.Frag) (H : Hp) (pg : Pg) (n : Nat) (first : Str) (ga mb : Addr) (M : Mom) (k : Nat) (σ : L2.St) (H' : Hp) : Prop :=
  ∃ (f : Str) (pl : Int) (at_ : Nat) (b : Addr) (od : Obj) (ys : List V) (F : Fm) (fv : V) (M' : Mom) (y7 y8 : Option V), σ = [some (V.ref ga), some (V.ref mb), some (V.str f), some (V.int pl), some (V.int ((at_ : Nat) : Int)), some (V.ref b), some fv, y7, y8] ∧ Same H H' ∧ f ∈ keys pg ∧ rFm K H' fv F ∧
      FOk (e0 :: (prOf pg first).params) (prOf pg first).kinds (prOf pg f) F ∧ H' b = some (.frz od (.lst ys)) ∧ rMo n H' M' (ys.drop at_) ∧ WMom pg n M' f ∧ momF pg n f F M' = momF pg n first (begin_ (prOf pg first)) M ∧ k = msz M' ∧ at_ ≤ ys.length
theorem r_form_at (n : Nat) (T : Tx K mg) (c_Procedure_way : CalS P w K mg base 2 (cP K) "way" (S_Procedure_way K)) (c_Program_getitem : CalS P w K mg base 2 (cG K) "__getitem__" (S_Program_getitem K)) (c_Form_begin : CalT P w K mg base 3 "Form" (cF K) "begin" (S_Form_begin K))
    (c_Form_entered : CalF P w K mg base 3 (cF K) "entered" (S_Form_entered K)) (c_Program_first : CalP P w K mg base 1 (cG K) "first" (S_Program_first K)) (c_is_marked : Cal P w K mg base 1 "is_marked" S_is_marked)
    (c_form_behind : Cal P w K mg base (4 + 2 * n + 1) "form_behind" (S_fb K n)) : FnR P w K mg base CX0 (5 + 2 * n + 1) (a_form_at K) (sp (S_form_at K n)) := by
  refine fr_of (S := (S_form_at K n)) (N := N_form_at) (f_form_at T) sc_form_at (fun vs H Q h => by first | (obtain ⟨rfl, _⟩ := h; rfl) | (obtain ⟨_, rfl, _⟩ := h; rfl) | (obtain ⟨_, _, rfl, _⟩ := h; rfl) | (obtain ⟨_, _, _, rfl, _⟩ := h; rfl) | (obtain ⟨_, _, _, _, rfl, _⟩ := h; rfl) | (obtain ⟨_, _, _, _, _, rfl, _⟩ := h; rfl) | (obtain ⟨_, _, _, _, _, _, rfl, _⟩ := h; rfl) | (obtain ⟨_, _, _, _, _, _, _, rfl, _⟩ := h; rfl) | (obtain ⟨_, _, _, _, _, _, _, _, rfl, _⟩ := h; rfl) | (obtain ⟨_, _, _, _, _, _, _, _, _, rfl, _⟩ := h; rfl) | (obtain ⟨_, _, _, _, _, _, _, _, _, _, rfl, _⟩ := h; rfl) | (obtain ⟨_, _, _, _, _, _, _, _, _, _, _, rfl, _⟩ := h; rfl) | (obtain ⟨_, _, _, _, _, _, _, _, _, _, _, _, rfl, _⟩ := h; rfl) | (obtain ⟨_, _, _, _, _, _, _, _, _, _, _, _, _, rfl, _⟩ := h; rfl) | (obtain ⟨_, _, _, _, _, _, _, _, _, _, _, _, _, _, rfl, _⟩ := h; rfl) | (obtain ⟨_, _, _, _, _, _, _, _, _, _, _, _, _, _, _, rfl, _⟩ := h; rfl) | (obtain ⟨_, _, _, _, _, _, _, _, _, _, _, _, _, _, _, _, rfl, _⟩ := h; rfl)) (fun _ _ _ _ _ _ us hl => match us, hl with | [_, _], _ => rfl) (fun cdv A outer s H vs Q E hr h => ?_)
  obtain ⟨g, mv, first, pg, M, rfl, hg, ok, hf, ⟨mb, mod, mxs, rfl, hmb, hmo⟩, hw, q⟩ := h
  obtain ⟨ga, rfl, gdx, gd, hgs, hgd⟩ := id hg
  obtain ⟨ep, okp⟩ := ok.at hf
  refine ⟨_, (pss_cons (ps_asg (pe_tup (pa_cons (pprop c_Program_first hr (by omega) (pv 0)) (pa_cons pe_int (pa_cons pe_int (pa_cons (pv 1) pa_nil))))) (pgTup (n := 4) K rfl rfl (pgs_cons (pg_name (i := 2) sc_form_at.nd rfl (.inl rfl)) (pgs_cons (pg_name (i := 3) sc_form_at.nd rfl (.inl rfl)) (pgs_cons (pg_name (i := 4) sc_form_at.nd rfl (.inl rfl)) (pgs_cons (pg_name (i := 5) sc_form_at.nd rfl (.inl rfl)) pgs_nil))))))
      (pss_cons (ps_set (i := 6) sc_form_at.nd rfl (.inl rfl) (pstat c_Form_begin hr (by omega) rfl (pa_cons (pgetG c_Program_getitem hr (by omega) (pv 0) (pv 2)) pa_nil)))
      (pss_cons (ps_while PassesOwn.never (pt_cmpR op_lt (pv 4) (pe_callB (cLen K rfl) rfl (n_len T) (by decide +kernel) (pa_cons (pv 5) pa_nil)) (nomark _)) (pss_cons (ps_set (i := 7) sc_form_at.nd rfl (.inl rfl) (pe_ix (ixL K rfl) (pv 5) (pv 4) (fun _ _ => rfl)))
        (pss_cons (ps_set (i := 8) sc_form_at.nd rfl (.inl rfl) (pmethS c_Procedure_way hr (by omega) (pgetG c_Program_getitem hr (by omega) (pv 0) (pv 2)) (pa_cons (pe_ifExp (pt_val (pe_callB (cIsi K rfl) rfl (n_isinstance T) (by decide +kernel) (pa_cons (pv 7) (pa_cons (pe_bltn (v := .ty "tuple") rfl (n_tuple T) (by decide +kernel) rfl) pa_nil)))) (pe_ix (ixT K rfl) (pv 7) pe_int (fun _ _ => rfl)) (pv 7)) pa_nil)))
        (pss_one (ps_if (pt_val (pcall c_is_marked hr (by omega) rfl (pa_cons (pv 7) (pa_cons pe_str pa_nil)))) (pss_cons (ps_set (i := 6) sc_form_at.nd rfl (.inl rfl) (pmeth c_Form_entered hr (by omega) (pv 6) (pa_cons (pe_ix (ixT K rfl) (pv 8) pe_int (fun _ _ => rfl)) (pa_cons (pgetG c_Program_getitem hr (by omega) (pv 0) (pe_ix (ixT K rfl) (pe_ix (ixT K rfl) (pv 8) pe_int (fun _ _ => rfl)) pe_int (fun _ _ => rfl))) pa_nil))))
          (pss_one (ps_asg (pe_tup (pa_cons (pe_ix (ixT K rfl) (pe_ix (ixT K rfl) (pv 8) pe_int (fun _ _ => rfl)) pe_int (fun _ _ => rfl)) (pa_cons pe_int (pa_cons pe_int (pa_cons (pe_ix (ixT K rfl) (pv 7) pe_int (fun _ _ => rfl)) pa_nil))))) (pgTup (n := 4) K rfl rfl (pgs_cons (pg_name (i := 2) sc_form_at.nd rfl (.inl rfl)) (pgs_cons (pg_name (i := 3) sc_form_at.nd rfl (.inl rfl)) (pgs_cons (pg_name (i := 4) sc_form_at.nd rfl (.inl rfl)) (pgs_cons (pg_name (i := 5) sc_form_at.nd rfl (.inl rfl)) pgs_nil)))))))) (pss_one (ps_par3 (i := 6) (j := 3) (l := 4) rfl sc_form_at.nd rfl rfl rfl (by decide) (by decide) (by decide) rfl rfl rfl (pa_cons (pcall c_form_behind hr (by omega) rfl (pa_cons (pv 0) (pa_cons (pv 2) (pa_cons (pv 6) (pa_cons (pv 7) pa_nil))))) (pa_cons (pe_ix (ixT K rfl) (pv 8) pe_int (fun _ _ => rfl)) (pa_cons (pe_op op_add (pv 4) pe_int) pa_nil))) (by rfl))))))))
      (pss_one (ps_ret (pe_tup (pa_cons (pv 2) (pa_cons (pv 3) (pa_cons (pv 6) pa_nil))))))))), ?_⟩
  refine ⟨_, rfl, ga, gdx, _, rfl, hgs, _, first, pg, rfl, hg, _, rfl, ln4, fun t ht => ?_⟩
  have s0 : Same H (upd H t (.tup [V.str first, V.int 0, V.int 0, V.ref mb])) := same_new ht
  refine ⟨t, _, rfl, .inl (.inl upd_same), rfl, _, _, rfl, _, _, rfl, _, _, rfl, _, _, rfl, rfl, ?_⟩
  refine ⟨_, rfl, _, rfl, ga, gdx, _, rfl, slt_keep (kp_of s0) hgs, _, first, first, pg, prOf pg first, rfl, mo (kp_of s0) hg, ep, fun v1 hv1 => ?_⟩
  refine ⟨_, prOf pg first, rfl, hv1, okp.wk, fun v2 H2 s2 hv2 => ?_⟩
  have sA := s0.trans s2
  refine ⟨AtInv K H pg n first ga mb M,
    ⟨_, first, 0, 0, mb, mod, mxs, _, v2, M, _, _, rfl, sA, hf, hv2, begin_ok okp, sA _ _ hmb, by rw [List.drop_zero]; exact rMo_mono (kp_of sA) hmo, hw, rfl, rfl, Nat.zero_le _⟩, ?_⟩
  rintro k σ H' ⟨f, pl, at_, b, od, ys, F, fv, M', y7, y8, rfl, s, hfk, hfv, fo, hb, hmo', hw', hmf, rfl, hle⟩
  obtain ⟨ef, okf⟩ := ok.at hfk
  refine ⟨_, rfl, _, rfl, _, _, rfl, .inl ⟨ys, .inl (.inr ⟨_, hb⟩), rfl⟩, _, _, rfl, rfl, ?_⟩
  rcases mom_head (F := F) hmo' hw' with ⟨eM, ed⟩ | ⟨v, st, r, m', ed, hst, hws, hr2, hw2, hsz, hm2⟩ | ⟨i, m', a, b2, od2, zs, x, gg, as, rs, eM, ed, ha, hb2, hmo2, hx, hc, hw2⟩
  · -- the end
    have hnl : ¬ ((at_ : Nat) : Int) < ((ys.length : Nat) : Int) := fun z => by
      have := congrArg List.length ed
      rw [List.length_drop] at this
      simp only [List.length_nil] at this
      omega
    refine ⟨false, bF hnl, iteF ?_⟩
    refine ⟨_, rfl, _, rfl, _, rfl, ln3, fun t3 ht3 => ?_⟩
    have s3 : Same H' (upd H' t3 (.tup [V.str f, V.int pl, fv])) := same_new ht3
    rw [eM] at hmf
    have e1 : (momF pg n first (begin_ (prOf pg first)) M) = (f, F) := by rw [← hmf]; rfl
    exact q t3 pl fv _ (s.trans s3) (by rw [e1]; exact upd_same) (by rw [e1]; exact mo (kp_of s3) hfv)
  · -- a step of a run
    obtain ⟨h1, h2, hlt⟩ := drop_head ed
    refine ⟨true, bT (by omega), iteT ⟨_, fun _ _ z => z, ?_⟩⟩
    refine ⟨_, rfl, _, rfl, _, _, _, _, rfl, rfl, .inl (.inr ⟨_, hb⟩), atI_nat h1, ?_⟩
    refine ⟨_, rfl, _, rfl, ga, gdx, _, rfl, slt_keep (kp_of s) hgs, _, first, f, pg, prOf pg f, rfl, mo (kp_of s) hg, ef, fun v5 hv5 => ?_⟩
    obtain ⟨pa, rfl, pdx, pk, pu, pr, pw, hps, _⟩ := id hv5
    refine ⟨pa, pdx, _, rfl, hps, ?_⟩
    have back : ∀ (x : Wy) (wa : Addr) (wu : V) (D : Ends), H' wa = some (.tup [.int x.a, .int x.b, wu]) → (∀ σ' H2, (∃ k', k' < msz M' ∧ AtInv K H pg n first ga mb M k' σ' H2) → D.nx σ' H2) →
        tPar3 6 3 4 (tCons (tCl (S_fb K n) (tCons (tVar 0) (tCons (tVar 2) (tCons (tVar 6) (tCons (tVar 7) tNil))))) (tCons (tOp (rIxT K) (tVar 8) (tC (.int 1))) (tCons (tOp (rI0 fun i j => .int (i + j)) (tVar 4) (tC (.int 1))) tNil)))
          D
          [some (V.ref ga), some (V.ref mb), some (V.str f), some (V.int pl), some (V.int ((at_ : Nat) : Int)), some (V.ref b), some fv, some v, some (.ref wa)] H' := by
      intro x wa wu D hwa hD
      refine ⟨_, rfl, _, rfl, _, rfl, _, rfl, _, fv, v, first, f, pg, F, st, _, _, rfl, mo (kp_of s) hg, ok, hfk, hfv, fo, hst, hws, fun v9 H9 s9 hv9 => ?_⟩
      refine ⟨_, rfl, _, _, _, _, rfl, rfl, .inl (.inl (s9 _ _ hwa)), at1, _, rfl, _, _, rfl, rfl, _, _, _, rfl, hD _ _ ?_⟩
      refine ⟨msz m', by omega, f, x.b, at_ + 1, b, od, ys, stepF pg n f F st, v9, m', some v, some (.ref wa), rfl, s.trans s9, hfk, hv9, step_ok ok n hfk fo hws, s9 _ _ hb, by rw [h2]; exact rMo_mono (kp_of s9) hr2, hw2, by rw [← hm2]; exact hmf, rfl, by omega⟩
    cases st with
    | way i =>
      have ev : v = .int (i : Nat) := by cases n <;> exact hst
      subst ev
      obtain ⟨x, hx, hnc⟩ := hws.way
      refine ⟨_, rfl, _, _, _, _, _, rfl, .ty _, .base (.int _), kt_it, false, rfl, iteF ⟨_, rfl, _, prOf pg f, i, x, rfl, hv5, hx, fun v6 ⟨wa, wu, e6, hwa, hwu⟩ => ?_⟩⟩
      subst e6
      refine ⟨_, rfl, _, _, rfl, .inl ⟨_, rfl, false, rfl, iteF ?_⟩⟩
      exact back x wa wu _ hwa fun _ _ z => z
    | call i r0 =>
      cases n with
      | zero => exact hws.elim
      | succ n =>
        obtain ⟨a, b3, od3, xs3, rfl, ha, hb3, pb3⟩ := id hst
        obtain ⟨x, g2, as, rs, hx, hc, hr3⟩ := id hws
        refine ⟨_, rfl, _, _, _, _, _, rfl, .ty _, .base (.tup ha), kt_tt, true, rfl, iteT ⟨_, rfl, _, _, _, _, rfl, rfl, .inl (.inl ha), at1, _, prOf pg f, i, x, rfl, hv5, hx, fun v6 ⟨wa, wu, e6, hwa, hwu⟩ => ?_⟩⟩
        subst e6
        refine ⟨_, rfl, _, _, rfl, .inr ⟨a, "call", _, _, rfl, ha, false, bF call_ne, iteF ?_⟩⟩
        exact back x wa wu _ hwa fun _ _ z => z
  · -- in
    obtain ⟨h1, h2, hlt⟩ := drop_head ed
    obtain ⟨hgk, cf, sin, syn⟩ := ok.call hfk hx hc
    obtain ⟨eg, okq⟩ := ok.at hgk
    refine ⟨true, bT (by omega), iteT ⟨_, fun _ _ z => z, ?_⟩⟩
    refine ⟨_, rfl, _, rfl, _, _, _, _, rfl, rfl, .inl (.inr ⟨_, hb⟩), atI_nat h1, ?_⟩
    refine ⟨_, rfl, _, rfl, ga, gdx, _, rfl, slt_keep (kp_of s) hgs, _, first, f, pg, prOf pg f, rfl, mo (kp_of s) hg, ef, fun v5 hv5 => ?_⟩
    obtain ⟨pa, rfl, pdx, pk, pu, pr, pw, hps, _⟩ := id hv5
    refine ⟨pa, pdx, _, rfl, hps, ?_⟩
    refine ⟨_, rfl, _, _, _, _, _, rfl, .ty _, .base (.tup ha), kt_tt, true, rfl, iteT ⟨_, rfl, _, _, _, _, rfl, rfl, .inl (.inl ha), at1, _, prOf pg f, i, x, rfl, hv5, hx, fun v6 ⟨wa, wu, e6, hwa, hwu⟩ => ?_⟩⟩
    subst e6
    rw [hc] at hwu
    obtain ⟨ca, cy, cz, rfl, hca, hcy, hcz⟩ := id hwu
    refine ⟨_, rfl, _, _, rfl, .inr ⟨a, "in", _, _, rfl, ha, true, bT rfl, iteT ?_⟩⟩
    obtain ⟨fa, rfl, dx, fk, fp, fr, ft, hfa, _⟩ := id hfv
    refine ⟨_, rfl, fa, dx, _, rfl, hfa, ff_no (by decide +kernel), ?_⟩
    refine ⟨_, rfl, _, _, _, _, rfl, rfl, .inl (.inl hwa), at2, ?_⟩
    refine ⟨_, rfl, _, rfl, _, _, _, _, rfl, rfl, .inl (.inl hwa), at2, _, _, _, _, rfl, rfl, .inl (.inl hca), at1, ga, gdx, _, rfl, slt_keep (kp_of s) hgs, _, first, gg, pg, prOf pg gg, rfl, mo (kp_of s) hg, eg, fun v7 hv7 => ?_⟩
    refine ⟨_, _, _, F, prOf pg gg, gg, as, rs, _, rfl, hfv, hwu, hv7, fo.wf, okq.wk, by rw [fo.keys]; exact sin.1, by rw [cf.la]; have := okq.ps.2.1; omega, cf.la, fun v8 H8 s8 hv8 => ?_⟩
    have sB := s.trans s8
    refine ⟨_, rfl, _, _, _, _, rfl, rfl, .inl (.inl (s8 _ _ hwa)), at2, _, _, _, _, rfl, rfl, .inl (.inl (s8 _ _ hca)), at1, ?_⟩
    refine ⟨_, rfl, _, _, _, _, rfl, rfl, .inl (.inl (s8 _ _ ha)), at2, ln4, fun t9 ht9 => ?_⟩
    have s9 : Same H8 (upd H8 t9 (.tup [V.str gg, V.int 0, V.int 0, V.ref b2])) := same_new ht9
    refine ⟨t9, _, rfl, .inl (.inl upd_same), rfl, _, _, rfl, _, _, rfl, _, _, rfl, _, _, rfl, rfl, ?_⟩
    refine ⟨msz m', by rw [eM]; simp [msz], gg, 0, 0, b2, od2, zs, entered_ F as (prOf pg gg), v8, m', _, _, rfl, sB.trans s9, hgk, mo (kp_of s9) hv8, entered_ok fo sin cf okq, s9 _ _ (s8 _ _ hb2), by rw [List.drop_zero]; exact rMo_mono (kp_of (s8.trans s9)) hmo2, hw2, ?_, rfl, Nat.zero_le _⟩
    rw [← hmf, eM]
    simp only [momF]
    rw [wayS_of hx, hc]
    rfl
end Fp

/-! ## FpRulB -/
set_option Elab.async false
set_option linter.all false
set_option maxRecDepth 100000
set_option maxHeartbeats 2000000
namespace Fp
open PySem PySem.Spec PyProof.Rows L2
/-! ### {**d, k: v} -/
section
variable {prog : Program} {w : World} {κ : Type} [DecidableEq κ] {knd : KeyKind prog w κ} {A : Around} {E : Value → Shared → Prop} {s : Shared}
theorem dictPut_ok {d : Addr} {kvs : List (κ × Value)} {k : κ} {key v : Value} {Q : Unit → Shared → Prop} (hkey : knd.is k key = true) (hm : s.heap.DictOf knd d kvs)
    (hQ : ∀ h', h'.DictOf knd d (stored kvs k v) → Heap.SameBut d s.heap h' → Q () { s with heap := h' }) (hsz : kvs.length ≤ sizeLine) : wpAny (model prog w) A (dictPut d (knd.hash k) key v) Q E s := by
  obtain ⟨o, es, ep, ho, hc, hd, hk, hp, hn⟩ := hm
  have hes : es.size ≤ sizeLine := by
    have e1 := hp.length
    have e2 : es.toList.length = es.size := by simp
    omega
  unfold dictPut
  refine wpAny_bind (wpAny_dictFind_of hkey ho hd hk ?_)
  have hidx : (es.findIdx? fun e => knd.is k e.key) = kvs.findIdx? fun kv => decide (kv.1 = k) := by
    rw [← hp.findIdx k]
    obtain ⟨l⟩ := es
    simp
  cases hi : es.findIdx? fun e => knd.is k e.key with
  | some i =>
    refine wpAny_updateDict ho hd (hQ _ ⟨_, _, ep, Heap.get?_update_self _ ho (Obj.isFreed_of_dict (Obj.data_mapDict hd _)), hc.mapDict _, Obj.data_mapDict hd _, hk.modify _ _, ?_, ?_⟩ (Heap.SameBut.update ..))
    · rw [stored, if_pos (any_of_findIdx_some (hidx ▸ hi))]
      have hl : (es.toList.findIdx? fun e => knd.is k e.key) = some i := by
        rw [← hi]
        obtain ⟨l⟩ := es
        simp
      have := hp.modify hn hl v
      obtain ⟨l⟩ := es
      simpa using this
    · rw [stored, if_pos (any_of_findIdx_some (hidx ▸ hi)), keys_map_store]
      exact hn
  | none =>
    have hnot : k ∉ kvs.map (·.1) := not_mem_of_findIdx_none (hidx ▸ hi)
    have hany : ¬ (kvs.any fun kv => decide (kv.1 = k)) = true := by
      rw [List.any_eq_true]
      rintro ⟨kv, hkv, he⟩
      exact hnot (List.mem_map.mpr ⟨kv, hkv, of_decide_eq_true he⟩)
    refine wpAny_updateDictKeys (hz := hes) ho hd (hQ _ ⟨_, _, ep + 1, Heap.get?_update_self _ ho (Obj.isFreed_of_dict (Obj.data_mapDictKeys hd _)),
      hc.mapDictKeys _, Obj.data_mapDictKeys hd _, hk.push hkey _, ?_, ?_⟩ (Heap.SameBut.update ..))
    · rw [stored, if_neg hany]
      have := hp.append hkey (knd.hash k) v
      obtain ⟨l⟩ := es
      simpa using this
    · rw [stored, if_neg hany, List.map_append, List.nodup_append]
      refine ⟨hn, by simp, ?_⟩
      intro a ha b hb
      simp only [List.map_cons, List.map_nil, List.mem_singleton] at hb
      subst hb
      exact fun e => hnot (e ▸ ha)
/-- no key of it is an object of its own -/
def NoRef (knd : KeyKind prog w κ) : Prop := ∀ k v, knd.is k v = true → ∀ a, v ≠ Value.ref a
theorem merge_ok {d o : Addr} {kvs more : List (κ × Value)} {Q : Unit → Shared → Prop} (nr : NoRef knd) (hdo : d ≠ o) (hoS : (o == sysModules) = false) (hd : s.heap.DictOf knd d kvs) (ho : s.heap.DictOf knd o more)
    (hQ : ∀ h', h'.DictOf knd d (merged kvs more) → Heap.SameBut d s.heap h' → Q () { s with heap := h' }) (hsz : kvs.length + more.length ≤ sizeLine) : wpAny (model prog w) A (mergeMapping d (.ref o) false) Q E s := by
  obtain ⟨od, esd, epd, hod, hcd, hdd, hkd, hpd, hnd⟩ := id hd
  obtain ⟨oo, eso, epo, hoo, hco, hdo', hko, hpo, hno⟩ := id ho
  have hlen : more.length = eso.size := by rw [← hpo.length]; simp
  have loop : ∀ (f : Nat → PUnit → Sem (ForInStep PUnit)),
      (∀ i (s' : Shared) (Q' : ForInStep PUnit → Shared → Prop), i < eso.size → s'.heap.get? o = some oo → s'.heap.DictOf knd d (merged kvs (more.take i)) →
        (∀ h'', h''.DictOf knd d (merged kvs (more.take (i + 1))) → Heap.SameBut d s'.heap h'' → Q' (.yield PUnit.unit) { s' with heap := h'' }) → wpAny (model prog w) A (f i PUnit.unit) Q' E s') →
      wpAny (model prog w) A (forIn (List.range eso.size) PUnit.unit f) (fun _ s' => Q () s') E s := by
    intro f hf
    refine wpAny_forIn_list _
      (fun rest _ s' => ∃ h' i, s' = { s with heap := h' } ∧ rest = List.range' i (eso.size - i) ∧ i ≤ eso.size ∧ h'.DictOf knd d (merged kvs (more.take i)) ∧ h'.get? o = some oo ∧ Heap.SameBut d s.heap h')
      _ ?_ ?_ _ _ ⟨s.heap, 0, rfl, by rw [List.range_eq_range']; simp, Nat.zero_le _, by simpa [merged] using hd, hoo, Heap.SameBut.refl _ _⟩
    · rintro x rest b s' ⟨h', i, rfl, hr, hi, hd', hoo', hs'⟩
      have hlt : i < eso.size := by
        rcases Nat.lt_or_ge i eso.size with h | h
        · exact h
        · rw [Nat.sub_eq_zero_of_le h] at hr; simp at hr
      obtain ⟨rfl, hrest⟩ : x = i ∧ rest = List.range' (i + 1) (eso.size - (i + 1)) := by
        have e : eso.size - i = (eso.size - (i + 1)) + 1 := by omega
        rw [e, List.range'_succ] at hr
        injection hr with h1 h2
        exact ⟨h1, h2⟩
      refine hf x _ _ hlt hoo' hd' fun h'' hd'' hs'' => ?_
      exact ⟨h'', x + 1, rfl, hrest, hlt, hd'', (hs''.2 o (Ne.symm hdo)).trans hoo', hs'.trans hs''⟩
    · rintro b s' ⟨h', i, rfl, hr, hi, hd', hoo', hs'⟩
      have hin : i = eso.size := by
        rcases Nat.lt_or_ge i eso.size with h | h
        · have e : eso.size - i = (eso.size - (i + 1)) + 1 := by omega
          rw [e, List.range'_succ] at hr; exact nomatch hr
        · exact Nat.le_antisymm hi h
      refine hQ h' ?_ hs'
      rw [hin, ← hlen, List.take_length] at hd'
      exact hd'
  have quiet : ∀ (f : DictEntry → PUnit → Sem (ForInStep PUnit)), (∀ e ∈ eso.toList, ∀ c, f e c = pure (.yield c)) → (forIn eso PUnit.unit f) = pure PUnit.unit := by
    intro f hf
    rw [← Array.forIn_toList]
    exact forIn_yield_id _ fun e he c => hf e he c
  unfold mergeMapping
  refine wpAny_bind (m := isInstance (.ref o) (.type "dict")) (wpAny_isInstance ho.typeIs isSubtype_dict_dict ?_)
  rw [if_pos rfl]
  refine wpAny_bind (wpAny_specialOf ho.typeIs F.slot_dict_iter.lookup ?_)
  refine wpAny_bind (wpAny_pure ?_)
  simp only [beq_self_eq_true]
  rw [if_neg (by rw [hoS]; exact Bool.false_ne_true)]
  have noref : ∀ e ∈ eso.toList, ∀ a, e.key ≠ Value.ref a := fun e he a => by
    obtain ⟨k, hkey, _⟩ := hko e (Array.mem_toList_iff.mp he)
    exact nr k _ hkey a
  refine wpAny_bind (wpAny_dictEntries hod hdd ?_)
  split
  · refine wpAny_bind (wpAny_dictEntries hoo hdo' ?_)
    refine wpAny_bind (wpAny_of_eq (quiet _ fun e he c => ?_) ?_)
    · split
      · rename_i a ha
        exact absurd ha (noref e he a)
      · rfl
    · refine wpAny_bind (wpAny_dictEntries hoo hdo' (wpAny_bind (wpAny_dictEpoch hoo hdo' (wpAny_bind (wpAny_mono (loop _ fun i s' Q' hi hoo1 hd1 hq => ?_) (fun _ s' h => wpAny_pure h) (fun _ _ e => e))))))
      refine wpAny_bind (wpAny_dictEntries hoo1 hdo' ?_)
      rw [Array.getElem?_eq_getElem hi]
      dsimp only
      obtain ⟨kv, hkv⟩ : ∃ kv, more[i]? = some kv := ⟨more[i]'(by rw [hlen]; exact hi), List.getElem?_eq_getElem _⟩
      obtain ⟨k, v⟩ := kv
      obtain ⟨hkey, hval⟩ := hpo.get? (e := eso[i]) (by simp [hi]) hkv
      obtain ⟨k', hkey', hhash⟩ := hko eso[i] (Array.getElem_mem hi)
      obtain rfl : k' = k := knd.inj _ _ _ hkey' hkey
      have hmx : (merged kvs (more.take i)).length ≤ sizeLine := by
        have e1 := merged_length_le kvs (more.take i)
        have e2 : (more.take i).length ≤ more.length := by rw [List.length_take]; omega
        omega
      refine wpAny_bind (wpAny_holding ?_)
      rw [if_neg Bool.false_ne_true, hhash, hval]
      refine dictPut_ok hkey hd1 (fun h'' hd'' hs'' => ?_) hmx
      have hoo'' : h''.get? o = some oo := (hs''.2 o (Ne.symm hdo)).trans hoo1
      refine wpAny_bind (wpAny_dictEpoch hoo'' hdo' ?_)
      rw [if_neg (by simp)]
      exact wpAny_pure (hq h'' (by rw [merged_take_succ kvs more i (k', v) hkv]; exact hd'') hs'')
  · refine wpAny_bind (wpAny_dictEntries hoo hdo' (wpAny_bind (wpAny_dictEpoch hoo hdo' (wpAny_bind (wpAny_mono (loop _ fun i s' Q' hi hoo1 hd1 hq => ?_) (fun _ s' h => wpAny_pure h) (fun _ _ e => e))))))
    refine wpAny_bind (wpAny_dictEntries hoo1 hdo' ?_)
    rw [Array.getElem?_eq_getElem hi]
    dsimp only
    obtain ⟨kv, hkv⟩ : ∃ kv, more[i]? = some kv := ⟨more[i]'(by rw [hlen]; exact hi), List.getElem?_eq_getElem _⟩
    obtain ⟨k, v⟩ := kv
    obtain ⟨hkey, hval⟩ := hpo.get? (e := eso[i]) (by simp [hi]) hkv
    obtain ⟨k', hkey', hhash⟩ := hko eso[i] (Array.getElem_mem hi)
    obtain rfl : k' = k := knd.inj _ _ _ hkey' hkey
    have hmx : (merged kvs (more.take i)).length ≤ sizeLine := by
      have e1 := merged_length_le kvs (more.take i)
      have e2 : (more.take i).length ≤ more.length := by rw [List.length_take]; omega
      omega
    refine wpAny_bind (wpAny_holding ?_)
    rw [if_neg Bool.false_ne_true, hhash, hval]
    refine dictPut_ok hkey hd1 (fun h'' hd'' hs'' => ?_) hmx
    have hoo'' : h''.get? o = some oo := (hs''.2 o (Ne.symm hdo)).trans hoo1
    refine wpAny_bind (wpAny_dictEpoch hoo'' hdo' ?_)
    rw [if_neg (by simp)]
    exact wpAny_pure (hq h'' (by rw [merged_take_succ kvs more i (k', v) hkv]; exact hd'') hs'')
end
end Fp

/-! ## FpRulC -/
set_option Elab.async false
set_option linter.all false
set_option maxRecDepth 100000
set_option maxHeartbeats 2000000
namespace Fp
open PySem PySem.Spec PyProof.Rows L2
/-! ### dicts whose keys are tuples: their pairs walked -/
/-- the pairs of a dict at rest whose keys are tuples -/
def ItiT (d : Addr) (o : Obj) (kvs : List (List Key × V)) : It :=
  ⟨fun i H => H d = some (.frz o (.dT kvs)) ∧ i < kvs.length,
   fun i H x H' => ∃ T k v q, kvs[i]? = some (k, v) ∧ x = .ref T ∧ H T = none ∧ H q = some (.tup (k.map kV)) ∧ H' = upd H T (.tup [.ref q, v]),
   fun i H => H d = some (.frz o (.dT kvs)) ∧ kvs.length ≤ i⟩
section
variable {P : Program} {w : World} {K : PySem.W.Frag} {d : Addr} {o : Obj} {es : Array DictEntry} {ep : Nat}
/-- at rest: what stands at each place -/
theorem frzT2 {X : Cx} {pins : List (Addr × Obj)} {σ : L2.St} {H : Hp} {s : Shared} {kvs : List (List Key × V)} (I : Inv X pins σ H s) (h : H d = some (.frz o (.dT kvs))) :
    (d == sysModules) = false ∧ DT.Raw s.heap d es ep → ∀ (i : Nat) (k : List Key) (v : V), kvs[i]? = some (k, v) → ∃ (en : DictEntry) (q : Addr), es[i]? = some en ∧ en.key = .ref q ∧ H q = some (.tup (k.map kV)) ∧ RelV v en.val := by
  rintro ⟨_, o1, ho1, _, hd1⟩ i k v e
  obtain ⟨hd, z, hs, xs, pr, o', es', ep', ho, hx, hdt, he, _⟩ := I.hok d _ h
  rw [ho1] at ho
  cases ho
  rw [hd1] at hdt
  cases hdt
  obtain ⟨b, hb, e1, e2, e3⟩ := paired_get pr e
  have q := entry_at he i
  rw [hb] at q
  exact ⟨_, b.2.1, q, rfl, e2, e3⟩
theorem raw_of {X : Cx} {pins : List (Addr × Obj)} {σ : L2.St} {H : Hp} {s : Shared} {kvs : List (List Key × V)} (I : Inv X pins σ H s) (h : H d = some (.frz o (.dT kvs))) :
    (d == sysModules) = false ∧ ∃ es ep, o.data = .dict es ep ∧ es.size = kvs.length ∧ DT.Raw s.heap d es ep := by
  obtain ⟨hs, hgd, hx, es, ep, hdt, hsz, _⟩ := I.frzT h
  exact ⟨hs, es, ep, hdt, hsz, o, hgd, hx, hdt⟩
theorem turnT {kvs : List (List Key × V)} {elts : List Expr} {kk : Nat} {tpos : Pos} (it : Addr) (hod : o.data = .dict es ep) :
    Turn P w K (.Tuple elts kk tpos) (ItiT d o kvs) [it] it (fun i h => ∃ ok ov, IsItemIter h it d i es.size ep ok ov) where
  mem := List.mem_singleton.mpr rfl
  obj := fun i h ⟨ok, ov, e0⟩ b hb => by
    cases List.mem_singleton.mp hb
    exact ⟨_, e0, fun v z => nomatch z⟩
  keep := fun i h h' ⟨ok, ov, e0⟩ k => ⟨ok, ov, k it (List.mem_singleton.mpr rfl) _ e0⟩
  item := by
    intro X hP hw hK hc i pins s σ H E I hf ⟨ok, ov, he⟩ ⟨hd, hi⟩
    cases hP; cases hw; cases hK
    obtain ⟨hs, es2, ep2, hd2, hsz, raw⟩ := raw_of I hd
    obtain ⟨rfl, rfl⟩ := dict_ep hod hd2
    obtain ⟨⟨k, v⟩, hkv⟩ : ∃ p, kvs[i]? = some p := ⟨kvs[i], List.getElem?_eq_getElem hi⟩
    obtain ⟨en, q, hen, hkey, hq, rv⟩ := frzT2 I hd ⟨hs, raw⟩ i k v hkv
    have hi2 : i < es2.size := by rw [hsz]; exact hi
    have een : es2[i] = en := Option.some.inj ((Array.getElem?_eq_getElem hi2).symm.trans hen)
    have hlt : it < s.heap.objs.size := Heap.lt_size he
    refine DT.nextI he raw hi2 fun h1 ho hT hz hk => ?_
    rw [een] at ho hT
    refine ⟨_, rfl, wpAny_letOwnedTupleGo_items (s := { s with heap := h1 }) ho fun h2 he2 sb => ?_⟩
    have hT2 := (sb.2 _ (Nat.ne_of_gt hlt)).trans hT
    have new : ObjOk X.prog X.w (upd H s.heap.objs.size (.tup [.ref q, v])) h2 s.heap.objs.size (.tup [.ref q, v]) :=
      ⟨ln2, [en.key, en.val], .cons (by rw [hkey]; rfl) (.cons rv .nil), ⟨_, hT2, rfl, _, rfl⟩⟩
    have I1 := I.turnedNew (h' := h2) (t' := s.toks) (ch := [it]) (fun b ob hb e => (sb.2 b (fun z => hb (List.mem_singleton.mpr z))).trans (hk b ob (fun z => hb (List.mem_singleton.mpr z)) e)) hf (Nat.le_refl _) new
    refine ⟨.ref s.heap.objs.size, _, I1, rfl, ⟨_, k, v, q, hkv, rfl, I.hok.fresh (Nat.le_refl _), hq, rfl⟩, ⟨en.key, en.val, he2⟩, fun b hb => ?_⟩
    cases List.mem_singleton.mp hb
    rw [upd_ne (Nat.ne_of_lt hlt)]
    exact (hf it (List.mem_singleton.mpr rfl)).1
  done := by
    intro X hP hw hK hc i pins s σ H E I hf ⟨ok, ov, he⟩ ⟨hd, hi⟩
    cases hP; cases hw; cases hK
    obtain ⟨f0, f1, f2, f3, f4, f5⟩ := hf it (List.mem_singleton.mpr rfl)
    obtain ⟨hs, es2, ep2, hd2, hsz, raw⟩ := raw_of I hd
    obtain ⟨rfl, rfl⟩ := dict_ep hod hd2
    exact DT.endI (I.ok.hd hc) he raw (by rw [hsz]; exact hi) fun h1 eb => ⟨rfl, I.turned (t' := s.toks) (fun b ob hb e => eb b ob hb e) f0 f1 f3 f4 f5⟩
  self := fun A i s Q E ⟨_, _, e0⟩ h => PySem.W.kcp_self e0 h
end
def iItemsT (td : TE) : TI := fun σ H R => td σ H fun x H1 => ∃ d o kvs, x = .ref d ∧ H1 d = some (.frz o (.dT kvs)) ∧ R (ItiT d o kvs) H1
theorem pi_itemsT {X : Cx} {e : Expr} {td : TE} {apos cpos : Pos} {elts : List Expr} {kk : Nat} {tpos : Pos} (he : PE X e td) (hb : attributeBase e "items" X.env (eval e X.env) = eval e X.env := by rfl) (hl : (apos.endLine == cpos.line) = true := by rfl) :
    PI X (.Tuple elts kk tpos) (.Call (.Attribute e "items" apos) [] [] cpos) (iItemsT td) := by
  refine ⟨fun pins s σ H R I h => wpAny_Call_method (T := "dict") (id := "dict.items") hb rfl hl F.plainAttrs_dict F.slot_dict_items F.type_dict_items (thn (he.run pins s σ H _ I h) fun u s1 ⟨x, H1, I1, rx, d, o, kvs, ex, hd, q⟩ => ?_)⟩
  subst ex
  obtain rfl : u = Value.ref d := rx
  obtain ⟨hs, es, ep, hdt, hsz, raw⟩ := raw_of I1 hd
  obtain ⟨o1, ho1, hx1, hd1⟩ := id raw
  refine ⟨raw.typeIs, fun b q => ?_, ?_⟩
  · cases q
    exact ⟨o1, ho1, hx1.2.1⟩
  have I2 : Inv X pins σ H1 { s1 with heap := s1.heap.push { cls := .type "dict_items", data := .fields #[.ref d] } } := I1.kept (t' := s1.toks) fun b ob q => Heap.get?_push_of_some _ q
  have fin : wpAny (model X.prog X.w) X.A (pyIter (.ref s1.heap.objs.size)) (PIE X pins σ (.Tuple elts kk tpos) R) X.xe { s1 with heap := s1.heap.push { cls := .type "dict_items", data := .fields #[.ref d] } } :=
    DT.iterI (d := d) (es := es) (ep := ep) ⟨_, Heap.get?_push_size _ rfl, rfl, rfl⟩ (raw.push _) (pi_one (tk := s1.toks) I2 _ (turnT _ hdt) ⟨.none, .none, Heap.get?_push_size _ rfl⟩ q)
  show wpAny _ _ (callWith cpos (.builtin "dict.items") [.ref d] [] []) _ X.xe s1
  exact method_meetsIn F.slot_dict_items F.entry_dict_items rfl (PySem.evalArgs_none ⟨rfl, raw.typeIs, F.args_dict_items_1 _, _, DT.meetsItems (es := es) (ep := ep) hs, raw, fin⟩)
/-! ### sorted(d), keys that are tuples of two texts: the keys' tuples in some order -/
/-- v is a tuple of two texts -/
def Txt2 (h : Heap) (v : Value) : Prop := ∃ a o x t y u n, v = .ref a ∧ h.get? a = some o ∧ o.cls = .type "tuple" ∧ o.data = .seq #[.str x t, .str y u] n
theorem Txt2.on {h h2 : Heap} {v : Value} (p : Txt2 h v) (k : ∀ b o, h.get? b = some o → o.cls = .type "tuple" → h2.get? b = some o) : Txt2 h2 v :=
  let ⟨a, o, x, t, y, u, n, e, ho, hc, hd⟩ := p; ⟨a, o, x, t, y, u, n, e, k _ _ ho hc, hc, hd⟩
section
variable {prog : Program} {w : World} {A : Around} {E : Value → Shared → Prop} {s : Shared}
theorem txt2_tot {vs : List Value} (hp : ∀ v ∈ vs, Txt2 s.heap v) : Srt.Tot prog w A s (tuples' true) (fun p => p.1 ∈ vs) := by
  intro p q hm hm2
  obtain ⟨a, o, x, t, y, u, n, e, ho, hc, hd⟩ := hp _ hm
  obtain ⟨a2, o2, x2, t2, y2, u2, n2, e2, ho2, hc2, hd2⟩ := hp _ hm2
  rw [e, e2]
  let B : Bool := if x = x2 then (if y = y2 then false else decide (y.cps.toList < y2.cps.toList)) else decide (x.cps.toList < x2.cps.toList)
  refine ⟨B, PySem.W.kat_lt ho hd ho2 hd2 ?_⟩
  show PySem.W.KatLex prog w A true (decide (2 < 2)) _ [(.str x t, .str x2 t2), (.str y u, .str y2 u2)] 0 s
  refine PySem.W.kat_cons (SeqAt.EqAt.str_str x t x2 t2 prog w _ _ ?_)
  by_cases ex : x = x2
  · have eB : B = if y = y2 then false else decide (y.cps.toList < y2.cps.toList) := if_pos ex
    rw [show (x == x2) = true from by rw [ex]; exact beq_self_eq_true x2]
    refine PySem.W.kat_yes (PySem.W.kat_cons (SeqAt.EqAt.str_str y u y2 u2 prog w _ _ ?_))
    by_cases ey : y = y2
    · rw [show (y == y2) = true from by rw [ey]; exact beq_self_eq_true y2]
      exact PySem.W.kat_yes (PySem.W.kat_nil ⟨rfl, by rw [eB, if_pos ey]; rfl⟩)
    · rw [show (y == y2) = false from beq_eq_false_iff_ne.mpr ey]
      refine PySem.W.kat_no (PySem.W.kat_one _ _ (DT.rcLt_str A s y u y2 u2 prog w _ _ ?_))
      exact (show s = s ∧ decide (y.cps.toList < y2.cps.toList) = B from ⟨rfl, by rw [eB, if_neg ey]⟩)
  · rw [show (x == x2) = false from beq_eq_false_iff_ne.mpr ex]
    exact PySem.W.kat_no (oneLt_str ⟨rfl, (if_neg ex).symm⟩)
theorem txt2_firsts {h : Heap} : ∀ {vs : List Value}, (∀ v ∈ vs, Txt2 h v) → ∃ fs : List Value, PySem.W.KatTups h vs fs ∧ fs.length = vs.length ∧ ∀ f ∈ fs, ∃ x t, f = Value.str x t
  | [], _ => ⟨[], PySem.W.KatTups.nil, rfl, fun _ hm => absurd hm (List.not_mem_nil)⟩
  | v :: vs, hp => by
    obtain ⟨fs, h1, h2, h3⟩ := txt2_firsts fun z hm => hp z (List.mem_cons_of_mem v hm)
    obtain ⟨a, o, x, t, y, u, n, rfl, ho, hc, hd⟩ := hp v List.mem_cons_self
    exact ⟨.str x t :: fs, PySem.W.KatTups.cons ho hc hd rfl h1, congrArg (· + 1) h2, fun f hm => (List.mem_cons.mp hm).elim (fun z => ⟨x, t, z⟩) (h3 f)⟩
theorem txt2_sortable {a : Addr} {vs : List Value} (h0 : 0 < vs.length) (hp : ∀ v ∈ vs, Txt2 s.heap v) (ha : ∀ o, s.heap.get? a = some o → o.cls ≠ .type "tuple") : Srt.Sortable prog w A s a vs := fun h2 keep => by
  have hp2 : ∀ v ∈ vs, Txt2 h2 v := fun v hm => (hp v hm).on fun b o e c => keep b o (fun z => ha o (z ▸ e) c) e
  obtain ⟨fs, f1, f2, f3⟩ := txt2_firsts hp2
  refine ⟨tuples' true, fun Q E hq => PySem.W.kat_kind (T := .type "str") f1 (by omega) (fun f hm => ?_) (by rfl) ?_, txt2_tot hp2⟩
  · obtain ⟨x, t, rfl⟩ := f3 f hm
    exact PySem.W.Looks.now
  · rw [show (Value.type "str" != Value.type "tuple") = true from by decide +kernel]
    exact hq
end
def rSortedDT : List V → Hp → VK → Prop := fun xs H Q => ∃ (d : Addr) (kvs : List (List Key × V)), xs = [V.ref d] ∧ Rd H d (.dT kvs) ∧ (∀ p ∈ kvs, ∃ x y : Str, p.1 = [Sum.inr x, Sum.inr y]) ∧
  ∀ (bs cs : List Addr) p, H p = none → IsKeys H kvs bs → cs.Perm bs → Q (.ref p) (upd H p (.lst (cs.map V.ref)))
theorem refs_of_perm {bs : List Addr} : ∀ {vs : List Value}, (∀ v ∈ vs, ∃ b, v = Value.ref b) → ∃ cs : List Addr, vs = cs.map Value.ref
  | [], _ => ⟨[], rfl⟩
  | v :: r, h => by
    obtain ⟨b, rfl⟩ := h v List.mem_cons_self
    obtain ⟨cs, rfl⟩ := refs_of_perm (bs := bs) fun z hz => h z (List.mem_cons_of_mem _ hz)
    exact ⟨b :: cs, rfl⟩
theorem call_sortedDT {X : Cx} (hc : X.calm = true) : CallR X (.builtin "sorted") rSortedDT := by
  intro pins s σ H xs us Q I r ⟨d, kvs, e0, hd, ht, q⟩
  subst e0
  obtain ⟨u, rfl, rx⟩ := r.one
  cases rx
  obtain ⟨z, hs, ks, pr, o, es, ep, ho, hx, hdt, he, hn⟩ := (show ObjOk X.prog X.w H s.heap d (.dT kvs) from hd.ok I.hok)
  have l1 : es.size = ks.length := size_of_entries he
  have l2 : kvs.length = ks.length := Paired.length pr
  refine Calls.call_function_entry PyProof.Rows.kind_sorted PyProof.Rows.plain_sorted PyProof.Rows.entry_sorted (PyProof.Rows.args_sorted1 _) ?_
  unfold Builtin.«sorted»
  refine wpAny_bind (m := checkCount "sorted" 1 1 _) (wpAny_pure (wpAny_bind (PySem.W.kdu_collect (A := X.A.in1) (kdl_raw hs hx hdt) (I.ok.hd hc) ho (by omega) fun h1 tk acc hk hacc => ?_)))
  have ea : acc.toList = ks.map fun x => Value.ref x.2.1 := by
    have hl : acc.toList.length = ks.length := by rw [Array.length_toList, hacc.1]; exact l1
    refine List.ext_getElem? fun j => ?_
    rw [List.getElem?_map]
    by_cases hj : j < acc.toList.length
    · have hj2 : j < ks.length := by omega
      have e1 := List.getElem?_eq_getElem hj
      obtain ⟨en, hen, hv⟩ := hacc.2 j _ (by rw [← Array.getElem?_toList]; exact e1)
      have qe := entry_at he j
      rw [hen, List.getElem?_eq_getElem hj2] at qe
      rw [e1, hv, List.getElem?_eq_getElem hj2, Option.some.inj qe]
      rfl
    · rw [List.getElem?_eq_none (by omega), List.getElem?_eq_none (by omega)]
      rfl
  generalize hL : acc.toList = L at ea ⊢
  subst ea
  have hLl : (ks.map fun x => Value.ref x.2.1).length = ks.length := List.length_map _
  have I1 : Inv X pins σ H { s with heap := h1, toks := tk } := I.kept hk
  refine wpAny_bind (wpAny_newList ?_ (by rw [hLl]; omega))
  have hoL : (h1.push (seqObj "list" (ks.map fun x => Value.ref x.2.1).toArray 0)).get? h1.objs.size = some (seqObj "list" (ks.map fun x => Value.ref x.2.1).toArray 0) := Heap.get?_push_size _ rfl
  have old : ∀ b o, h1.get? b = some o → (h1.push (seqObj "list" (ks.map fun x => Value.ref x.2.1).toArray 0)).get? b = some o := fun b o e => Heap.get?_push_of_some _ e
  show wpAny _ _ _ _ _ { s with heap := h1.push (seqObj "list" (ks.map fun x => Value.ref x.2.1).toArray 0), toks := tk }
  have all2 : ∀ v ∈ ks.map (fun x => Value.ref x.2.1), Txt2 (h1.push (seqObj "list" (ks.map fun x => Value.ref x.2.1).toArray 0)) v := fun v hv => by
    obtain ⟨x, hxk, rfl⟩ := List.mem_map.mp hv
    obtain ⟨j, hj⟩ := List.mem_iff_getElem?.mp hxk
    obtain ⟨p, hp, e1, e2, _⟩ := L2.DX.pget pr hj
    obtain ⟨a, b, ek⟩ := ht p (List.mem_of_getElem? hp)
    rw [ek] at e2
    obtain ⟨_, its, rv, ot, hot, hct, nt, hdt2⟩ := (show ObjOk X.prog X.w H h1 x.2.1 (.tup [.str a, .str b]) from I1.hok _ _ e2)
    obtain ⟨u1, u2, rfl, r1, r2⟩ := vals2 rv
    obtain ⟨t1, rfl⟩ := r1
    obtain ⟨t2, rfl⟩ := r2
    exact ⟨_, ot, a, t1, b, t2, nt, rfl, old _ _ hot, hct, hdt2⟩
  refine wpAny_bind (wpAny_holding (wpAny_call_entry PyProof.Rows.slot_list_sort ⟨_, hoL, rfl⟩ PyProof.Rows.entry_list_sort
    (Srt.list_sort_any (s := { s with heap := h1.push (seqObj "list" (ks.map fun x => Value.ref x.2.1).toArray 0), toks := tk }) hoL (by rw [hLl]; omega) (fun h2 => txt2_sortable (by omega) all2 fun o e => ?_) fun out hp => ⟨_, rfl, ?_⟩) (PyProof.Rows.args_list_sort _)))
  · cases hoL.symm.trans e
    intro c
    exact absurd (Value.type.inj c) (by decide)
  obtain ⟨cs, rfl⟩ := refs_of_perm (bs := []) fun v hv => by
    obtain ⟨x, _, e⟩ := List.mem_map.mp (hp.mem_iff.mp hv)
    exact ⟨_, e.symm⟩
  have pc : cs.Perm (ks.map fun x => x.2.1) := by
    have := hp.map (fun v : Value => match v with | .ref b => b | _ => 0)
    rw [List.map_map, List.map_map] at this
    rw [show cs.map ((fun v : Value => match v with | .ref b => b | _ => 0) ∘ Value.ref) = cs from by rw [show ((fun v : Value => match v with | .ref b => b | _ => 0) ∘ Value.ref) = id from rfl, List.map_id]] at this
    exact this
  obtain ⟨e2, he2⟩ := PyProof.Rows.sortedHeap_at (vs := ks.map fun x => Value.ref x.2.1) (out := (cs.map Value.ref).toArray) hoL
  have hlen : (cs.map V.ref).length ≤ sizeLine := by
    rw [List.length_map, pc.length_eq, List.length_map]; omega
  refine wpAny_pure ⟨_, rfl, .ref h1.objs.size, _, I1.laid (t' := tk) (o := .lst (cs.map V.ref)) (fun b u e => ?_) (Nat.le_refl _) ⟨hlen, cs.map Value.ref, e2, vals_refs _, he2⟩, rfl, q _ cs _ (I1.hok.fresh (Nat.le_refl _)) (isKeys_of pr) pc⟩
  have hb : b < h1.objs.size := Heap.lt_size e
  rw [PyProof.Rows.sortedHeap_old (Nat.ne_of_lt hb) (by rw [size_push']; exact Nat.lt_succ_of_lt hb)]
  exact old _ _ e
/-! ### {k: v for ..}, keys that are tuples -/
theorem d_dictSetT {X : Cx} {pins : List (Addr × Obj)} {σ : L2.St} {H : Hp} {s : Shared} {E : Value → Shared → Prop} {D b : Addr} {kvs : List (List Key × V)} {k : List Key} {v : V} {u r : Value} {Q : Unit → Shared → Prop} (hu : X.A.units < cLine) (I : Inv X pins σ H s) (hD : H D = some (.dT kvs)) (hz : kvs.length < sizeLine)
    (hb : H b = some (.tup (k.map kV))) (ry : RelV (V.ref b) u) (rv : RelV v r) (h : ∀ s2, Inv X pins σ (upd H D (.dT (putK kvs k v))) s2 → Q () s2) : wpAny (model X.prog X.w) X.A (dictSet D u r) Q E s := by
  obtain rfl : u = Value.ref b := ry
  obtain ⟨z, hd, xs, rel, dd⟩ := dt_of I.hok hD
  have hl : (putK kvs k v).length ≤ sizeLine := Nat.le_trans (length_putK kvs k v) hz
  refine wpAny_dictSet_heap (hsz := by rw [← Paired.length rel]; exact z) (show (tupleKind (mixKind X.prog X.w)).room X.A from hu) (key_of I.hok hb) dd fun h1 ⟨q, es, ep, hq, h2, h3, h4, _, h5⟩ hs => h _ ?_
  refine d_write I (by rw [hD]; trivial) hs ⟨q, hq⟩ ⟨hl, hd, _, (rel.put k hb rv).keeps fun c ys ec => ?_, q, es, ep, hq, h2, h3, h4, h5⟩
  rw [upd_ne (ne_of ec hD (fun z => nomatch z))]
  exact ec
section
variable {X : Cx}
/-- D: the new dict -/
def tDcT (wi : TI) (g : TG) (tt : TT) (tk tv : TE) (vs : List Nat) : TE := fun σ H Q => wi σ H fun J H1 => ∀ D, H1 D = none → ∃ W : Nat → Nat → Hp → Prop, (∃ m, W 0 m (upd H1 D (.dT []))) ∧ ∀ i m H, W i m H →
  (J.stop i H ∧ Q (.ref D) H) ∨ (J.go i H ∧ ∃ Nx : Hp → Prop, (∀ H', Nx H' → ∃ m', m' < m ∧ W (i + 1) m' H') ∧ ∀ x H', J.yld i H x H' → g x (wipe σ vs) H' fun σ2 H2 => wipe σ2 vs = wipe σ vs ∧ tt σ2 H2 fun b H3 =>
    if b = true then tk σ2 H3 fun y H4 => tv σ2 H4 fun z H5 => ∃ kvs k b, y = .ref b ∧ H5 b = some (.tup (k.map kV)) ∧ H5 D = some (.dT kvs) ∧ kvs.length < sizeLine ∧ Nx (upd H5 D (.dT (putK kvs k z))) else Nx H3)
theorem pe_dcT {kx vx tg iter : Expr} {ifs : List Expr} {scope : Scope} {own : List (Str × Nat)} {pos : Pos} {wi : TI} {g : TG} {tt : TT} {tk tv : TE} (hu : X.A.units + 1 < cLine) (hc : X.calm = true) (hN : X.N.Nodup) (hi : PI X tg iter wi) (ok : BlkOk X.N X.env.scope scope own)
    (hg : ∀ (s : Shared) (H : Hp) (C : Addr) (cl : List (Str × Addr)) (fp : List Addr), PG (X.blk s H scope (compEnvC scope cl C X.env) fp) tg g) (ht : ∀ (s : Shared) (H : Hp) (C : Addr) (cl : List (Str × Addr)) (fp : List Addr), PTs (X.blk s H scope (compEnvC scope cl C X.env) fp) ifs tt)
    (hk : ∀ (s : Shared) (H : Hp) (C : Addr) (cl : List (Str × Addr)) (fp : List Addr), PE (X.blk s H scope (compEnvC scope cl C X.env) fp) kx tk)
    (he : ∀ (s : Shared) (H : Hp) (C : Addr) (cl : List (Str × Addr)) (fp : List Addr), PE (X.blk s H scope (compEnvC scope cl C X.env) fp) vx tv) (hs : ∀ x, foldedSetIterable iter X.env x = pure x := by intro _; rfl) :
    PE X (.DictComp kx vx [⟨tg, iter, ifs, 0⟩] scope pos) (tDcT wi g tt tk tv (own.map (·.2))) := by
  refine ⟨fun pins s σ H Q I h => ?_⟩
  rw [arm_eval_DictComp]
  have hfree : ∀ y ∈ scope.names, y.2 = .free → ∃ c, X.env.cells.lookup y.1 = some c := fun y hy e => (ok.free y hy e).elim (fun k => I.ok.has _ (.inl k)) fun k => I.ok.has _ (.inr k)
  refine wpAny_comprehension_free (use := none) rfl hs (closure_ok hfree) ok.kind (fun y hy e => by rw [ok.uniq y hy, e]) (thn (hi.run pins s σ H _ I h) fun xv s1 hx => thn hx fun itv s2 h2 => ?_)
  obtain ⟨it, fp, tn, J, H2, e, I2, T, st2, f2, q⟩ := h2
  subst e
  refine wpAny_newObj_type (newEnv_comp ?_)
  generalize hD : s2.heap.objs.size = D
  obtain ⟨W, ⟨m0, w0⟩, turn⟩ := q D (I2.hok.fresh (Nat.le_of_eq hD))
  generalize hs3 : ({ s2 with heap := s2.heap.push { cls := .type "dict", data := .dict #[] } } : Shared) = s3
  have h3 : s3.heap = s2.heap.push { cls := .type "dict", data := .dict #[] } := by rw [← hs3]
  have I3 : Inv X pins σ (upd H2 D (.dT [])) s3 := by
    rw [← hs3]
    exact I2.laid (t' := s2.toks) (fun b o e => Heap.get?_push_of_some _ e) (Nat.le_of_eq hD) (by rw [← hD]; exact dt_empty s2.heap I2.big)
  have f3 : ∀ b ∈ fp, FpOk X pins (upd H2 D (.dT [])) b ∧ b < s3.heap.objs.size := fun b hb => by
    obtain ⟨o, e, _⟩ := T.obj _ _ st2 b hb
    have hlt := Heap.lt_size e
    exact ⟨⟨by rw [upd_ne (by rw [← hD]; exact Nat.ne_of_lt hlt)]; exact (f2 b hb).1, (f2 b hb).2⟩, by rw [h3, Heap.size_push]; exact Nat.lt_succ_of_lt hlt⟩
  have st3 : tn 0 s3.heap := T.keep _ _ _ st2 fun b _ o e => by rw [h3]; exact Heap.get?_push_of_some _ e
  have I4 := block_start I3 ok hN f3
  generalize hcs : cellsFrom (s3.heap.objs.size + 1) scope.names (cloFrom X.env.cells scope.names []) = cs at I4
  have pg := hg s3 (upd H2 D (.dT [])) s3.heap.objs.size cs fp
  have pt := ht s3 (upd H2 D (.dT [])) s3.heap.objs.size cs fp
  have pk := hk s3 (upd H2 D (.dT [])) s3.heap.objs.size cs fp
  have pe := he s3 (upd H2 D (.dT [])) s3.heap.objs.size cs fp
  subst hcs
  show codeAny _ _ (.compStart (.DictComp kx vx [⟨tg, iter, ifs, 0⟩] scope pos) 0 (.ref it) (.ref D) (compEnvC scope (cellsFrom (s3.heap.objs.size + 1) scope.names (cloFrom X.env.cells scope.names [])) s3.heap.objs.size X.env)) (compPost (model X.prog X.w) X.A X.xe none (EP X pins σ Q) (.ref D) s3.heap.objs.size) { s3 with heap := pushCells (s3.heap.push { cls := .type "dict", data := .dict #[] }) scope.names }
  have nfp : ∀ b ∈ fp, (upd H2 D (.dT [])) b = none := fun b hb => (f3 b hb).1.1
  generalize hce : compEnvC scope (cellsFrom (s3.heap.objs.size + 1) scope.names (cloFrom X.env.cells scope.names [])) s3.heap.objs.size X.env = ce at I4 pg pt pk pe ⊢
  have cL : ce.locals = s3.heap.objs.size := by rw [← hce]; rfl
  generalize hH3 : upd H2 D (.dT []) = H3 at I3 I4 pg pt pk pe w0 nfp f3
  generalize hs4 : ({ s3 with heap := pushCells (s3.heap.push { cls := .type "dict", data := .dict #[] }) scope.names } : Shared) = s4 at I4 ⊢
  have st4 : tn 0 s4.heap := T.keep _ _ _ st3 fun b _ o e => by rw [← hs4]; exact pushCells_keeps _ _ _ _ (Heap.get?_push_of_some _ e)
  have stat : ∀ {σ1 : L2.St} {H1 : Hp} {s1 : Shared}, Inv (X.blk s3 H3 scope ce fp) [] σ1 H1 s1 → (∀ b ∈ fp, H1 b = none) → ∀ b ∈ fp, FpOk (X.blk s3 H3 scope ce fp) [] H1 b := fun J1 hn b hb =>
    ⟨hn b hb, (J1.ok.exf b hb).1, J1.ok.exfs b hb, .inl hb, fun x c e => (J1.ok.exf b hb).2 x c e, fun p hp => absurd (show p ∈ ([] : List (Addr × Obj)) ++ [] from hp) (by simp)⟩
  have loop : codeAny (model X.prog X.w) X.A (.compLoop (.DictComp kx vx [⟨tg, iter, ifs, 0⟩] scope pos) 0 (.ref it) (.ref D) ce) (compPost (model X.prog X.w) X.A X.xe none (EP X pins σ Q) (.ref D) s3.heap.objs.size) s4 := by
    refine compLoop_anyD (fun n s1 => ∃ i H1, Inv (X.blk s3 H3 scope ce fp) [] (wipe σ (own.map (·.2))) H1 s1 ∧ tn i s1.heap ∧ (∀ b ∈ fp, H1 b = none) ∧ W i n H1) ?_ m0 ⟨0, H3, I4, st4, nfp, w0⟩
    rintro n s5 ⟨i, H5, I5, st5, n5, w5⟩
    rcases turn i n H5 w5 with ⟨stop, qq⟩ | ⟨go, Nx, hNx, step⟩
    · refine thnF (T.done (X.blk s3 H3 scope ce fp) rfl rfl rfl hc i [] s5 _ H5 (fun _ _ => False) I5 (stat I5 n5) st5 stop) fun r s6 ⟨hr, I6⟩ => ?_
      subst hr
      have I7 : Inv X pins σ H5 s6 := I3.call' (ch := fp) I6.os I6.base I6.hok I6.bare fun b hb => ⟨(f3 b hb).1.2.2.2.1, (f3 b hb).1.2.1, (f3 b hb).1.2.2.2.2.1, (f3 b hb).1.2.2.2.2.2⟩
      obtain ⟨m, hn, _⟩ := I6.loc
      have nC : H5 s3.heap.objs.size = none := by rw [← cL]; exact I6.free
      have hn : s6.heap.Ns s3.heap.objs.size m := by rw [← cL]; exact hn
      obtain ⟨g0, g1, g2, g3, g4, g5⟩ := I3.fpOk (Nat.le_refl _) nC
      refine ⟨m, hn, fun h9 sb => ⟨.ref D, H5, I7.turned (t' := s6.toks) (fun b o hb e => (sb.2 b hb).trans e) nC g1 g3 g4 g5, rfl, qq⟩⟩
    · refine thnF (T.item (X.blk s3 H3 scope ce fp) rfl rfl rfl hc i [] s5 _ H5 (fun _ _ => False) I5 (stat I5 n5) st5 go) fun r s6 ⟨u, hr, h6⟩ => ?_
      subst hr
      refine thnF h6 fun _ s7 ⟨x, H7, I7, r7, y7, st7, n7⟩ => thnF (pg.run _ s7 _ H7 x u _ (I7.pinned (stat I7 n7) (T.obj _ _ st7)) r7 (step x H7 y7)) fun _ s8 ⟨σ8, H8, I8, hw8, q8⟩ => thnF (pt.run _ s8 σ8 H8 _ I8 q8) fun b s9 ⟨H9, I9, q9⟩ => ?_
      have fin : ∀ {s1 : Shared} {H1 : Hp}, Inv (X.blk s3 H3 scope ce fp) ([] ++ pinsAt fp s7.heap) σ8 H1 s1 → Nx H1 → ∃ m, m < n ∧ ∃ i H1, Inv (X.blk s3 H3 scope ce fp) [] (wipe σ (own.map (·.2))) H1 s1 ∧ tn i s1.heap ∧ (∀ b ∈ fp, H1 b = none) ∧ W i m H1 := fun {s1 H1} J1 nx => by
        obtain ⟨m1, hm, w1⟩ := hNx H1 nx
        have pin1 : ∀ b ∈ fp, ∀ o, s7.heap.get? b = some o → s1.heap.get? b = some o ∧ H1 b = none := fun b hb o e => ⟨(J1.pin (b, o) (List.mem_append_right _ (List.mem_append_right _ (mem_pinsAt hb e)))).1, (J1.pin (b, o) (List.mem_append_right _ (List.mem_append_right _ (mem_pinsAt hb e)))).2.1⟩
        refine ⟨m1, hm, i + 1, H1, (J1.unpinned (pins := [])).weak (by rw [← hw8, wipe_length]) (fun j v e => by rw [← hw8] at e; exact (wipe_some e).1), T.keep _ _ _ st7 fun b hb o e => (pin1 b hb o e).1, fun b hb => ?_, w1⟩
        obtain ⟨o, e, _⟩ := T.obj _ _ st7 b hb
        exact (pin1 b hb o e).2
      cases b with
      | false => exact fin I9 q9
      | true =>
        refine thnF (pk.run _ s9 σ8 H9 _ I9 q9) fun z s10 ⟨yk, H10, I10, r10, q10⟩ => thnF (pe.run _ s10 σ8 H10 _ I10 q10) fun z2 s11 ⟨yv, H11, I11, r11, kvs, k, b, ek, hb11, hD11, hz11, nx⟩ => ?_
        subst ek
        exact d_dictSetT (X := X.blk s3 H3 scope ce fp) (Nat.lt_of_le_of_lt (Nat.le_succ _) hu) I11 hD11 hz11 hb11 r10 r11 fun s12 I12 => fin I12 nx
  exact codeAny_compStart_dict loop (T.self X.A 0 _ _ _ st4 loop)
end
/-! ### {**d, k: v}, the rule -/
theorem noRef_mix {P : Program} {w : World} : NoRef (mixKind P w) := fun k v h a e => by
  subst e
  rcases keyIs_shape (show keyIs k _ = true from h) with ⟨i, t, _, z⟩ | ⟨y, t, _, z⟩ <;> cases z
def tDsp (te : TE) (trs : List (TE × TE)) : TE := fun σ H Q => ∀ d, H d = none → te σ (upd H d (.dK [])) fun x H1 => ∃ a kvs, x = .ref a ∧ a ≠ d ∧ H1 d = some (.dK []) ∧ Rd H1 a (.dK kvs) ∧ kvs.length ≤ 1000 ∧
  ∀ p, (upd H1 d (.dK (mergeK [] kvs))) p = none → tPairs trs σ (upd (upd H1 d (.dK (mergeK [] kvs))) p (.dK [])) fun ps H3 => H3 p = some (.dK []) ∧ H3 d = some (.dK (mergeK [] kvs)) ∧ ∃ kvs2 : List (Key × V), ps = kvs2.map (fun kv => (kV kv.1, kv.2)) ∧ kvs2.length ≤ 15 ∧
    Q (.ref d) (upd (upd H3 p (.dK (mergeK [] kvs2))) d (.dK (mergeK (mergeK [] kvs) (mergeK [] kvs2))))
theorem pe_dsp {X : Cx} {e k v : Expr} {te : TE} {trs : List (TE × TE)} {pos : Pos} (he : PE X e te) (hs : PPs X pos [some k] [v] trs) : PE X (.Dict [none, some k] [e, v] pos) (tDsp te trs) := by
  refine ⟨fun pins s σ H Q I q => ?_⟩
  rw [arm_eval_Dict]
  show wpAny _ _ (do standAt pos; dictDisplay [(none, do let x ← eval e X.env; standAt pos; pure x), (some (eval k X.env), do let x ← eval v X.env; standAt pos; pure x)]) _ _ _
  refine wpAny_bind (wpAny_standAt ?_)
  unfold dictDisplay
  simp only [List.forIn_cons, List.forIn_nil, List.isEmpty_nil, if_true, pure_bind]
  have I1 := I.laid (a := s.heap.objs.size) (o := .dK []) (h' := s.heap.push { cls := .type "dict", data := .dict #[] }) (t' := s.toks) (fun _ _ q => Heap.get?_push_of_some _ q) (Nat.le_refl _) (dk_empty s.heap I.big)
  refine wpAny_bind (wpAny_bind (wpAny_bind (wpAny_alloc ?_)))
  have q1 := q _ (I.hok.fresh (Nat.le_refl s.heap.objs.size))
  generalize s.heap.objs.size = d at I1 q1 ⊢
  refine wpAny_bind (wpAny_holding (wpAny_bind (thn (he.run pins _ σ _ _ I1 q1) fun u s1 ⟨x, H1, I2, rx, a, kvs, ex, had, hd, ha, hl, q2⟩ => wpAny_bind (wpAny_standAt (wpAny_pure ?_)))))
  subst ex
  obtain rfl : u = Value.ref a := rx
  obtain ⟨z0, hd0, vs0, r0, dd0⟩ := dk_of I2.hok hd
  cases r0
  obtain ⟨z1, ha0, vs1, r1, dd1⟩ := dk_rd I2.hok ha
  have l1 : vs1.length ≤ 1000 := by rw [← Paired.length r1]; exact hl
  refine wpAny_bind (wpAny_onRaise (wpAny_tryCatch (wpAny_onRaise (wpAny_holding (merge_ok noRef_mix had.symm ha0 dd0 dd1 (fun h2 dd2 sb2 => ?_) (by rw [List.length_nil, sizeLine_eq]; omega))))))
  have zm : (mergeK [] kvs).length ≤ sizeLine := by
    have := length_mergeK kvs []
    rw [List.length_nil] at this
    rw [sizeLine_eq]; omega
  have I3 : Inv X pins σ (upd H1 d (.dK (mergeK [] kvs))) { s1 with heap := h2 } := d_write (t' := s1.toks) I2 (by rw [hd]; trivial) sb2 (let ⟨o, _, _, ho, _⟩ := dd2; ⟨o, ho⟩) (dk_new zm hd0 (r1.merge .nil) dd2)
  refine wpAny_pure (wpAny_pure ?_)
  have e17 : (([] ++ [(eval k X.env, do let x ← eval v X.env; standAt pos; pure x)] : List (Sem Value × Sem Value)).length == 17) = false := rfl
  simp only [e17, Bool.false_eq_true, if_false, pure_bind]
  rw [if_neg (show ¬ (([] ++ [(eval k X.env, do let x ← eval v X.env; standAt pos; pure x)] : List (Sem Value × Sem Value)).isEmpty = true) from fun z => nomatch z)]
  generalize hs3 : ({ s1 with heap := h2 } : Shared) = s3 at I3
  show wpAny _ _ _ _ _ s3
  have hp := I3.hok.fresh (Nat.le_refl s3.heap.objs.size)
  have q3 := q2 _ hp
  have I4 := I3.laid (a := s3.heap.objs.size) (o := .dK []) (h' := s3.heap.push { cls := .type "dict", data := .dict #[] }) (t' := s3.toks) (fun _ _ q => Heap.get?_push_of_some _ q) (Nat.le_refl _) (dk_empty s3.heap I3.big)
  have hpd : d ≠ s3.heap.objs.size := fun z => by rw [← z, upd_same] at hp; cases hp
  refine wpAny_bind (wpAny_bind (wpAny_holding (wpAny_subDict (knd := mixKind X.prog X.w) (show 1 ≤ 15 by decide) (thn (hs.run pins _ σ _ _ I4 q3) fun ws s4 ⟨ps, H4, I5, rel, e1, e2, kvs2, ep, lk, q5⟩ => ?_))))
  subst ep
  obtain ⟨rs, c, rk⟩ := carries_of (P := X.prog) (w := X.w) rel
  obtain ⟨_, hd3, vs3, r3, dd3⟩ := dk_of I5.hok e1
  cases r3
  refine ⟨rs, c, dd3, fun h5 dd5 sb5 => ?_⟩
  have zm2 : (mergeK [] kvs2).length ≤ sizeLine := by
    have := length_mergeK kvs2 []
    rw [List.length_nil] at this
    rw [sizeLine_eq]; omega
  have I6 : Inv X pins σ (upd H4 s3.heap.objs.size (.dK (mergeK [] kvs2))) { s4 with heap := h5, toks := s4.toks + ws.length } := d_write (t' := s4.toks + ws.length) I5 (by rw [e1]; trivial) sb5 (let ⟨o, _, _, ho, _⟩ := dd5; ⟨o, ho⟩) (dk_new zm2 hd3 (rk.merge .nil) dd5)
  have e2' : (upd H4 s3.heap.objs.size (.dK (mergeK [] kvs2))) d = some (.dK (mergeK [] kvs)) := by rw [upd_ne hpd]; exact e2
  obtain ⟨z6, hd6, vs6, r6, dd6⟩ := dk_of I6.hok e2'
  have l6 : vs6.length ≤ 1000 := by
    have h1 : (mergeK [] kvs).length = vs6.length := Paired.length r6
    have h2 := length_mergeK kvs []
    rw [List.length_nil] at h2
    omega
  obtain ⟨z7, hd7, vs7, r7, dd7⟩ := dk_of I6.hok (show (upd H4 s3.heap.objs.size (.dK (mergeK [] kvs2))) s3.heap.objs.size = some (.dK (mergeK [] kvs2)) from upd_same)
  have l7 : vs7.length ≤ 1000 := by
    have h1 : (mergeK [] kvs2).length = vs7.length := Paired.length r7
    have h2 := length_mergeK kvs2 []
    rw [List.length_nil] at h2
    omega
  refine wpAny_bind (wpAny_onRaise (wpAny_holding (merge_ok noRef_mix hpd hd7 dd6 dd7 (fun h8 dd8 sb8 => wpAny_pure (wpAny_pure ?_)) (by rw [sizeLine_eq]; omega))))
  have zm3 : (mergeK (mergeK [] kvs) (mergeK [] kvs2)).length ≤ sizeLine := by
    have h1 := length_mergeK (mergeK [] kvs2) (mergeK [] kvs)
    have h2 := length_mergeK kvs2 []
    have h3 := length_mergeK kvs []
    rw [List.length_nil] at h2 h3
    rw [sizeLine_eq]; omega
  exact ⟨.ref d, _, d_write (t' := s4.toks + ws.length) I6 (by rw [e2']; trivial) sb8 (let ⟨o, _, _, ho, _⟩ := dd8; ⟨o, ho⟩) (dk_new zm3 hd6 (r7.merge r6) dd8), rfl, q5⟩
end Fp

/-! ## FpRulE -/
set_option Elab.async false
set_option linter.all false
set_option maxRecDepth 100000
set_option maxHeartbeats 2000000
namespace Fp
open PySem PySem.Spec PyProof.Rows L2
/-! ### dicts compared: one in the other, values flat or dicts again -/
section
variable {prog : Program} {w : World} {A : Around} {s : Shared}
theorem hits_of {vb : List (Key × Value)} : ∀ {va : List (Key × Value)}, (∀ p ∈ va, ∃ y, valueAt vb p.1 = some y ∧ SeqAt.EqP prog w A s p.2 y true) → PySem.W.KeqHitsP prog w A s vb va true
  | [], _ => .nil
  | p :: r, h => by
    obtain ⟨y, h1, h2⟩ := h p List.mem_cons_self
    exact PySem.W.KeqHitsP.hit (e := true) (b := true) h1 h2 (hits_of fun z hz => h z (List.mem_cons_of_mem _ hz))
end
/-- flat values: equal -/
def Eq0 (x z : V) : Prop := flatV x = true ∧ flatV z = true ∧ eqV x z = true
def EqDic (Y : V → V → Prop) (H : Hp) (c d : Addr) : Prop := ∃ ks ls, Rd H c (.dK ks) ∧ Rd H d (.dK ls) ∧ ks.length = ls.length ∧ ∀ p ∈ ks, ∃ z, valV ls p.1 = some z ∧ Y p.2 z
def Eq1 (H : Hp) (x z : V) : Prop := ∃ c d, x = .ref c ∧ z = .ref d ∧ EqDic Eq0 H c d
section
variable {X : Cx} {pins : List (Addr × Obj)} {σ : L2.St} {H : Hp} {s : Shared} {A : Around}
theorem eq0_at {x z : V} {u v : Value} (h : Eq0 x z) (ru : RelV x u) (rv : RelV z v) : SeqAt.EqP X.prog X.w A s u v true := by
  have q := eqAt_V (A := A) (s := s) ru rv h.1 h.2.1
  rw [h.2.2] at q
  exact q X.prog X.w
theorem dic_rc {Y : V → V → Prop} {c d : Addr} (I : Inv X pins σ H s) (h : EqDic Y H c d) (hu : A.units < cLine) (hy : ∀ x z u v, Y x z → RelV x u → RelV z v → SeqAt.EqP X.prog X.w A.in1 s u v true) (E Q : Value → Shared → Prop) (q : Q (.bool true) s) :
    wpAny (model X.prog X.w) A (richCompare .Eq (.ref c) (.ref d)) Q E s := by
  obtain ⟨ks, ls, hc, hd, hl, hp⟩ := h
  obtain ⟨z1, c1, vs, r1, dd1⟩ := dk_rd I.hok hc
  obtain ⟨z2, c2, us, r2, dd2⟩ := dk_rd I.hok hd
  have l1 : ks.length = vs.length := Paired.length r1
  have l2 : ls.length = us.length := Paired.length r2
  have e : (vs.length == us.length && true) = true := by rw [← l1, ← l2, hl]; simp
  refine PySem.W.rcP_dicts (r := true) c1 c2 dd1 dd2 hu (fun _ => hits_of fun p hm => ?_) E Q (by rw [e]; exact q)
  obtain ⟨j, hj⟩ := List.mem_iff_getElem?.mp hm
  obtain ⟨k0, hk0, ek, rk⟩ := L2.DX.pget r1 hj
  obtain ⟨z, ez, hyz⟩ := hp k0 (List.mem_of_getElem? hk0)
  obtain ⟨w', hw, rw'⟩ := RelO.some_of (v := z) (o := valueAt us k0.1) (by rw [← ez]; exact r2.val k0.1)
  exact ⟨w', by rw [← ek]; exact hw, hy _ _ _ _ hyz rk rw'⟩
theorem eq1_at {x z : V} {u v : Value} (I : Inv X pins σ H s) (hu : A.units + 1 < cLine) (h : Eq1 H x z) (ru : RelV x u) (rv : RelV z v) : SeqAt.EqP X.prog X.w A s u v true := by
  obtain ⟨c, d, rfl, rfl, he⟩ := h
  obtain rfl : u = Value.ref c := ru
  obtain rfl : v = Value.ref d := rv
  intro E Q q
  by_cases e : c = d
  · subst e
    exact SeqAt.EqAt.same (A := A) (s := s) (.ref c) X.prog X.w E Q q
  · exact GQ.eqBool_refG e (dic_rc I he (Nat.lt_of_succ_lt hu) (fun x z u v h r1 r2 => eq0_at h r1 r2) E _ ⟨true, rfl, q⟩)
def rEqT : R2 := fun x y H Q => ∃ c d, x = .ref c ∧ y = .ref d ∧ (EqDic Eq0 H c d ∨ EqDic (Eq1 H) H c d) ∧ Q (.bl true) H
theorem op_eqT {k : Nat} (hr : Room k X.A) : OpR X (compareOp .Eq) rEqT := by
  intro pins s σ H x y v u Q I rx ry ⟨c, d, e1, e2, he, q⟩
  subst e1; subst e2
  obtain rfl : v = Value.ref c := rx
  obtain rfl : u = Value.ref d := ry
  have hu : X.A.units + 64 < cLine := hr.units
  have fin : EP X pins σ Q (.bool true) s := ⟨.bl true, H, I, rfl, q⟩
  show wpAny (model X.prog X.w) X.A (richCompare .Eq (.ref c) (.ref d)) (EP X pins σ Q) X.xe s
  rcases he with he | he
  · exact dic_rc I he (by omega) (fun x z u v h r1 r2 => eq0_at h r1 r2) X.xe _ fin
  · exact dic_rc I he (by omega) (fun x z u v h r1 r2 => eq1_at I (by show X.A.in1.units + 1 < cLine; show X.A.units + 1 + 1 < cLine; omega) h r1 r2) X.xe _ fin
end
/-! ### x != y of instances of one class with an own == and no own != -/
section
variable {M : Model} {prog : Program} {w : World} {A : Around} {E : Value → Shared → Prop} {s : Shared} {K : PySem.W.Frag} {x C f : Addr} {ox : Obj} {od : Option Obj}
theorem neBound {args : List Value} {Q : Option Value → Shared → Prop} (X : K.In s.heap) (I : PySem.W.InstAt s.heap x ox C od) (hs : PySem.W.findIn K (.ref C) "__ne__" = some (some (.builtin "object.__ne__")))
    (h : wpAny M A (call (.builtin "object.__ne__") (.ref x :: args)) (fun v => Q (some v)) E s) : wpAny M A (callSpecialIfBound? (.ref x) "__ne__" args) Q E s := by
  simp only [callSpecialIfBound?, bindSpecialIfBound?]
  refine wpAny_holding (wpAny_bind (wpAny_bind (wpAny_bind (I.type.here ((PySem.W.looks_findIn X hs).here (wpAny_bind (wpAny_askSetting (wpAny_ite ?_))))))))
  have fin : wpAny M A (call (.builtin "object.__ne__") ([.ref x] ++ args) >>= fun v => pure (some v)) Q E s := wpAny_bind (wpAny_mono h (fun v s2 q => wpAny_pure q) fun _ _ q => q)
  split
  · exact wpAny_bind (wpAny_of_eq (F.cmp_object.ne.bind _) (wpAny_pure (by exact fin)))
  · exact wpAny_tryCatch (wpAny_bind (wpAny_of_eq (F.cmp_object.ne.bind _) (wpAny_pure (by exact fin))))
theorem neEntry {y : Value} {Q : Fin → Shared → Prop} (hu : A.units < cLine) (X : K.In s.heap) (I : PySem.W.InstAt s.heap x ox C od) (hs : PySem.W.findIn K (.ref C) "__eq__" = some (some (.ref f))) (hf : PySem.W.isFn K (.ref f) = true)
    (h : wpAny (model prog w) A (call (.ref f) [.ref x, y]) (fun v s2 => ∃ b, v = .bool b ∧ Q (.done (.ret (.bool (!b)))) s2) E s) : wpAny (model prog w) A (Builtin.«object.__ne__» ⟨[.ref x, y], []⟩) Q E s := by
  unfold Builtin.«object.__ne__»
  repeat (first
    | with_reducible refine wpAny_cRoomFor hu ?_
    | (refine wpAny_bind (m := callSpecialIfBound? (.ref x) (Str.ofString "__eq__") [y]) (PySem.W.ifBound_K X I hs hf (wpAny_mono h (fun r s2 ⟨b, e, hq⟩ => by
        subst e
        repeat (first | exact hq | exact wpAny_pure hq | exact wpAny_truthy_bool hq | (refine wpAny_bind (m := truthy (.bool _)) (wpAny_truthy_bool ?_)) | wp_step)) fun _ _ q => q)))
    | wp_step)
theorem neRich {y : Addr} {oy : Obj} {od2 : Option Obj} {Q : Value → Shared → Prop} (hu : A.units + 1 < cLine) (X : K.In s.heap) (I : PySem.W.InstAt s.heap x ox C od) (J : PySem.W.InstAt s.heap y oy C od2) (hm : PySem.W.mroIn K C (.type "object") = some true)
    (hn : PySem.W.findIn K (.ref C) "__ne__" = some (some (.builtin "object.__ne__"))) (hs : PySem.W.findIn K (.ref C) "__eq__" = some (some (.ref f))) (hf : PySem.W.isFn K (.ref f) = true)
    (h : wpAny (model prog w) A.in1 (call (.ref f) [.ref x, .ref y]) (fun v s2 => ∃ b, v = .bool b ∧ Q (.bool (!b)) s2) E s) : wpAny (model prog w) A (richCompare .NotEq (.ref x) (.ref y)) Q E s := by
  have one : wpAny (model prog w) A (tryCompare (.ref x) "__ne__" (.ref y)) (fun r s2 => ∃ v, r = some v ∧ Q v s2) E s := by
    unfold tryCompare
    refine wpAny_bind (neBound X I hn (wpAny_call (codeAny_call_builtin F.cmp_object.ne.plain F.cmpEntry_ne (PySem.W.check_slot F.cmpKind_ne F.cmpSplit_ne (I.type.andThen (PySem.W.looks_mroIn X hm)) (F.cmpArgs_ne _ _)
      (neEntry (A := A.in1) (by exact hu) X I hs hf (wpAny_mono h (fun v s2 ⟨b, e, q⟩ => ⟨b, e, ?_⟩) fun _ _ q => q))))))
    exact wpAny_pure ⟨_, rfl, q⟩
  unfold richCompare
  simp only [oneThing_ref, cmpInfo_NotEq]
  refine wpAny_holding (wpAny_bind (wpAny_cRoomFor (Nat.lt_of_succ_lt hu) (wpAny_bind (I.type.here (wpAny_bind (J.type.here ?_))))))
  rw [show (Value.ref C != Value.ref C) = false from by simp]
  simp only [Bool.false_eq_true, if_false]
  refine wpAny_bind (wpAny_pure ?_)
  simp only [Bool.false_eq_true, if_false]
  refine wpAny_bind (wpAny_mono one (fun r s2 ⟨v, e, q⟩ => ?_) fun _ _ q => q)
  subst e
  exact wpAny_pure q
end
section
variable {X : Cx} {k j : Nat} {C : Addr} {S : Sq}
/-- x != y, S the promise of the class's own == -/
def rNeF (C : Addr) (S : Sq) : R2 := fun x y H Q => ∃ a b dx dy fs gs, x = .ref a ∧ y = .ref b ∧ H a = some (.ins C dx fs) ∧ H b = some (.ins C dy gs) ∧ S [.ref a, .ref b] H (fun v H2 => ∃ t, v = .bl t ∧ Q (.bl (!t)) H2)
theorem op_neF (c : CalF X.prog X.w X.K X.mg X.base k C "__eq__" S) (hn : PySem.W.findIn X.K (.ref C) "__ne__" = some (some (.builtin "object.__ne__"))) (hm : PySem.W.mroIn X.K C (.type "object") = some true) (hr : Room j X.A) (hk : k + 1 ≤ j) : OpR X (compareOp .NotEq) (rNeF C S) := by
  obtain ⟨f, F, hme, hc, hfi⟩ := c.ex
  intro pins s σ H x y v u Q I rx ry ⟨a, b, dx, dy, fs, gs, e1, e2, ha, hb, q⟩
  subst e1; subst e2
  obtain rfl : v = Value.ref a := rx
  obtain rfl : u = Value.ref b := ry
  obtain ⟨mA, O, _⟩ := ins_get I.hok ha
  obtain ⟨mB, O2, _⟩ := ins_get I.hok hb
  obtain ⟨od, J, _⟩ := O.look
  obtain ⟨od2, J2, _⟩ := O2.look
  have hu : X.A.units + 64 < cLine := hr.units
  show wpAny (model X.prog X.w) X.A (richCompare .NotEq (.ref a) (.ref b)) (EP X pins σ Q) X.xe s
  refine neRich (by omega) I.kIn J J2 hm hn hme.at_ hme.fn (wpAny_mono (wpAny_call (SlX.run_at (E := E0) (us := [.ref a, .ref b]) (ws := [.ref a, .ref b]) F (show Room k X.A.in1 from (hr.mono hk).in1) I.env0.in1 pass0 I (.cons rfl (.cons rfl .nil)) q)) (fun r s2 ⟨z, H2, I2, rz, t, ez, q2⟩ => ?_) fun _ _ q => q)
  subst ez
  obtain rfl : r = Value.bool t := rz
  exact ⟨t, rfl, .bl (!t), H2, I2, rfl, q2⟩
end
end Fp

/-! ## FpGenA -/
set_option Elab.async false
set_option linter.all false
set_option maxRecDepth 100000
set_option maxHeartbeats 2000000
namespace Fp
open PySem PySem.Spec PyProof.Rows L2
variable {P : Program} {w : World} {K : PySem.W.Frag} {mg : Str → Option Value} {base : Heap}
theorem seq_mk {A B : TS} {D : Ends} {σ : L2.St} {H : Hp} (Pv : L2.St → Hp → Prop) (hB : ∀ σ' H', Pv σ' H' → B D σ' H') (hA : (∀ σ' H', Pv σ' H' → B D σ' H') → tSeq A B D σ H) : tSeq A B D σ H := hA hB
theorem seq_set {te : TE} {g : TG} {B : TS} {D : Ends} {σ : L2.St} {H : Hp} (h : te σ H fun x H1 => g x σ H1 (B D)) : tSeq (tAsg te g) B D σ H := h
theorem tC_eq {v : V} {σ : L2.St} {H : Hp} {Q : VK} : tC v σ H Q = Q v H := rfl
theorem gN_eq {i : Nat} {x : V} {σ : L2.St} {H : Hp} {Q : L2.St → Hp → Prop} : gName i x σ H Q = Q (σ.set i (some x)) H := rfl
/-! ### the bag -/
theorem bag_put {H H1 : Hp} {b c : Addr} {n0 n1 n2 : Int} {od : Obj} {cells : List Int} (g : Bag H b) (s : SmB b H H1) (hc : H1 c = some (.frz od (.lst (cells.map V.int)))) (hb : ∃ o, H1 b = some o ∧ ∀ od u, o ≠ .frz od u) (h0 : 0 ≤ n0) (h1 : 0 ≤ n1) (h2 : n1 < 2147483648) (h3 : 0 ≤ n2) (h4 : ∀ x ∈ cells, 0 ≤ x) :
    Go (some b) H (upd H1 b (.lst [.int n0, .int n1, .int n2, .ref c])) := by
  obtain ⟨o, eo, no⟩ := hb
  have hne : c ≠ b := fun z => by rw [z, eo] at hc; cases hc; exact no _ _ rfl
  exact ⟨g, s.at, n0, n1, n2, c, od, cells, upd_same, by rw [upd_ne hne]; exact hc, h0, h1, h2, h3, h4⟩
/-- slots: 0 _law_bag_here, 1 _law_many, 2 _law_cell, 3 _law_mixed_here, 4 _law_value, 5 _law_begin, 6 _law_second -/
abbrev N_l_take : List Str := [Str.ofString "_law_bag_here", Str.ofString "_law_many", Str.ofString "_law_cell", Str.ofString "_law_mixed_here", Str.ofString "_law_value", Str.ofString "_law_begin", Str.ofString "_law_second"]
theorem sc_l_take : FnScope N_l_take [Str.ofString "_law_bag_here", Str.ofString "_law_many"] (defScope s_l_take) := ⟨rfl, rfl, rfl, by decide +kernel, rfl, by decide +kernel, by decide +kernel⟩
def S_take : Sq := fun vs H Q => ∃ (b : Addr) (many : Int), vs = [.ref b, .int many] ∧ Bag H b ∧ 1 ≤ many ∧ many < 2 ^ 62 ∧ ∀ (v : Int) H', Go (some b) H H' → 0 ≤ v → v < many → Q (.int v) H'
theorem r_take (T : Tx K mg) : FnR P w K mg base CX0 1 (a_l_take K) (sp S_take) := by
  refine fr_of (S := S_take) (N := N_l_take) (f_l_take T) sc_l_take (fun vs H Q h => by first | (obtain ⟨rfl, _⟩ := h; rfl) | (obtain ⟨_, rfl, _⟩ := h; rfl) | (obtain ⟨_, _, rfl, _⟩ := h; rfl) | (obtain ⟨_, _, _, rfl, _⟩ := h; rfl) | (obtain ⟨_, _, _, _, rfl, _⟩ := h; rfl) | (obtain ⟨_, _, _, _, _, rfl, _⟩ := h; rfl) | (obtain ⟨_, _, _, _, _, _, rfl, _⟩ := h; rfl) | (obtain ⟨_, _, _, _, _, _, _, rfl, _⟩ := h; rfl) | (obtain ⟨_, _, _, _, _, _, _, _, rfl, _⟩ := h; rfl) | (obtain ⟨_, _, _, _, _, _, _, _, _, rfl, _⟩ := h; rfl) | (obtain ⟨_, _, _, _, _, _, _, _, _, _, rfl, _⟩ := h; rfl) | (obtain ⟨_, _, _, _, _, _, _, _, _, _, _, rfl, _⟩ := h; rfl) | (obtain ⟨_, _, _, _, _, _, _, _, _, _, _, _, rfl, _⟩ := h; rfl) | (obtain ⟨_, _, _, _, _, _, _, _, _, _, _, _, _, rfl, _⟩ := h; rfl) | (obtain ⟨_, _, _, _, _, _, _, _, _, _, _, _, _, _, rfl, _⟩ := h; rfl) | (obtain ⟨_, _, _, _, _, _, _, _, _, _, _, _, _, _, _, rfl, _⟩ := h; rfl) | (obtain ⟨_, _, _, _, _, _, _, _, _, _, _, _, _, _, _, _, rfl, _⟩ := h; rfl)) (fun _ _ _ _ _ _ us hl => match us, hl with | [_, _], _ => rfl) (fun cdv A outer s H vs Q E hr h => ?_)
  obtain ⟨b, many, rfl, bag, hm1, hm2, q⟩ := h
  obtain ⟨n0, n1, n2, c, od, cells, hb, hc, h0, h1, h2, h3, h4⟩ := id bag
  refine ⟨_, (pss_cons (ps_if (pt_cmpR op_eq (pe_ix (ixL K rfl) (pv 0) pe_int (fun _ _ => rfl)) pe_int (nomark _)) (pss_cons (ps_set (i := 2) sc_l_take.nd rfl (.inl rfl) pe_int)
        (pss_cons (ps_if (pt_cmpR op_lt (pe_ix (ixL K rfl) (pv 0) pe_int (fun _ _ => rfl)) (pe_callB (cLen K rfl) rfl (n_len T) (by decide +kernel) (pa_cons (pe_ix (ixL K rfl) (pv 0) pe_int (fun _ _ => rfl)) pa_nil)) (nomark _)) (pss_one (ps_set (i := 2) sc_l_take.nd rfl (.inl rfl) (pe_ix (ixL K rfl) (pe_ix (ixL K rfl) (pv 0) pe_int (fun _ _ => rfl)) (pe_ix (ixL K rfl) (pv 0) pe_int (fun _ _ => rfl)) (fun _ _ => rfl)))) pss_nil)
        (pss_cons (ps_augS (pv 0) pe_int get_list pe_int ip_add set_list)
        (pss_cons (ps_if (pt_cmpR op_ge (pv 2) pe_int (nomark _)) (pss_one (ps_asg (pv 2) (pg_sub (pv 0) pe_int set_list))) pss_nil)
        (pss_cons (ps_set (i := 3) sc_l_take.nd rfl (.inl rfl) (pe_op op_add (pe_op op_add (pe_op op_mul (pe_ix (ixL K rfl) (pv 0) pe_int (fun _ _ => rfl)) pe_int) (pe_op op_mod (pe_callTy call_int1 rfl (n_int T) (by decide +kernel) (pa_cons (pv 2) pa_nil)) pe_int)) (pe_op op_mul pe_int (pe_ix (ixL K rfl) (pv 0) pe_int (fun _ _ => rfl)))))
        (pss_one (ps_asg (pe_op op_mod (pe_callTy call_int1 rfl (n_int T) (by decide +kernel) (pa_cons (pv 3) pa_nil)) pe_int) (pg_sub (pv 0) pe_int set_list)))))))) pss_nil)
      (pss_cons (ps_if (pt_cmpR op_gt (pe_ix (ixL K rfl) (pv 0) pe_int (fun _ _ => rfl)) pe_int (nomark _)) (pss_cons (ps_set (i := 4) sc_l_take.nd rfl (.inl rfl) (pe_op op_mod (pe_callTy call_int1 rfl (n_int T) (by decide +kernel) (pa_cons (pe_ix (ixL K rfl) (pv 0) pe_int (fun _ _ => rfl)) pa_nil)) (pv 1)))
        (pss_cons (ps_asg (pe_op op_fdivW (pe_ix (ixL K rfl) (pv 0) pe_int (fun _ _ => rfl)) (pv 1)) (pg_sub (pv 0) pe_int set_list))
        (pss_one (ps_ret (pv 4))))) pss_nil)
      (pss_cons (ps_set (i := 5) sc_l_take.nd rfl (.inl rfl) (pe_op op_mod (pe_callTy call_int1 rfl (n_int T) (by decide +kernel) (pa_cons (pe_op op_mul (pe_op op_add (pe_ix (ixL K rfl) (pv 0) pe_int (fun _ _ => rfl)) pe_int) pe_int) pa_nil)) pe_int))
      (pss_cons (ps_set (i := 6) sc_l_take.nd rfl (.inl rfl) (pe_op op_mod (pe_callTy call_int1 rfl (n_int T) (by decide +kernel) (pa_cons (pe_op op_mul (pe_op op_mod (pe_callTy call_int1 rfl (n_int T) (by decide +kernel) (pa_cons (pe_op op_mul (pv 5) (pv 5)) pa_nil)) pe_int) pe_int) pa_nil)) pe_int))
      (pss_cons (ps_if (pt_cmpR op_gt (pv 1) pe_int (nomark _)) (pss_one (ps_ret (pe_op op_mod (pe_callTy call_int1 rfl (n_int T) (by decide +kernel) (pa_cons (pe_op op_add (pe_op op_mul (pv 6) pe_int) (pv 5)) pa_nil)) (pv 1)))) pss_nil)
      (pss_one (ps_ret (pe_op op_mod (pe_callTy call_int1 rfl (n_int T) (by decide +kernel) (pa_cons (pe_op op_fdivW (pv 6) pe_int) pa_nil)) (pv 1))))))))), ?_⟩
  have wd : CDivW n0 many := wide_div (b := 62) (by omega) (by omega) (by decide) (by decide)
  have hmm : ∀ n : Int, 0 ≤ n % many ∧ n % many < many := fun n => ⟨Int.emod_nonneg _ (by omega), Int.emod_lt_of_pos _ (by omega)⟩
  refine seq_mk (fun σ' H1 => ∃ (m0 m1 m2 : Int) (y2 y3 : Option V), σ' = [some (V.ref b), some (V.int many), y2, y3, none, none, none] ∧ Go (some b) H H1 ∧ H1 b = some (.lst [.int m0, .int m1, .int m2, .ref c]) ∧ H1 c = some (.frz od (.lst (cells.map V.int))) ∧ 0 ≤ m0 ∧ 0 ≤ m1 ∧ m1 < 2147483648 ∧ 0 ≤ m2) ?_ fun rest => ?_
  · rintro σ' H1 ⟨m0, m1, m2, y2, y3, rfl, go, eb, ec, g0, g1, g2, g3⟩
    have hsq : SqL K H1 b [.int m0, .int m1, .int m2, .ref c] := .inl (.inl eb)
    refine ⟨_, rfl, _, _, _, _, rfl, rfl, hsq, at0, _, _, rfl, rfl, ?_⟩
    by_cases e0 : 0 < m0
    · have wd : CDivW m0 many := wide_div (b := 62) (by omega) (by omega) (by decide) (by decide)
      refine ⟨true, bT e0, iteT ?_⟩
      refine ⟨_, rfl, _, _, _, _, rfl, rfl, hsq, at0, .inl ⟨_, rfl, _, rfl, _, _, rfl, rfl, by show 0 < many; omega, ?_⟩⟩
      refine ⟨_, rfl, _, _, _, _, rfl, rfl, hsq, at0, _, rfl, _, _, rfl, rfl, wd, ?_⟩
      refine ⟨_, rfl, b, _, 0, 0, rfl, rfl, eb, rfl, ?_⟩
      refine ⟨_, rfl, q _ _ (bag_put bag go.2.1 ec ⟨_, eb, fun _ _ z => nomatch z⟩ (Int.ediv_nonneg g0 (by omega)) g1 g2 g3 h4) (hmm m0).1 (hmm m0).2⟩
    · refine ⟨false, bF e0, iteF ?_⟩
      refine ⟨_, rfl, _, _, _, _, rfl, rfl, hsq, at1, _, _, rfl, rfl, _, _, rfl, rfl, .inl ⟨by omega, by omega⟩, .inl ⟨_, rfl, _, _, rfl, rfl, by show (0 : Int) < 1000000007; decide, ?_⟩⟩
      have hb0 := Int.emod_nonneg ((m1 + 1) * 39373) (by decide : (1000000007 : Int) ≠ 0)
      have hb1 := Int.emod_lt_of_pos ((m1 + 1) * 39373) (by decide : (0 : Int) < 1000000007)
      refine ⟨_, rfl, _, rfl, _, _, rfl, rfl, .inl ⟨by omega, by omega⟩, .inl ⟨_, rfl, _, _, rfl, rfl, by show (0 : Int) < 998244353; decide, ?_⟩⟩
      generalize (m1 + 1) * 39373 % 1000000007 = bg at hb0 hb1 ⊢
      have hc0 := Int.emod_nonneg (bg * bg) (by decide : (998244353 : Int) ≠ 0)
      have hc1 := Int.emod_lt_of_pos (bg * bg) (by decide : (0 : Int) < 998244353)
      generalize bg * bg % 998244353 = sq at hc0 hc1 ⊢
      refine ⟨_, _, rfl, rfl, .inl ⟨by omega, by omega⟩, .inl ⟨_, rfl, _, _, rfl, rfl, by show (0 : Int) < 998244353; decide, ?_⟩⟩
      have hd0 := Int.emod_nonneg (sq * 30011) (by decide : (998244353 : Int) ≠ 0)
      have hd1 := Int.emod_lt_of_pos (sq * 30011) (by decide : (0 : Int) < 998244353)
      generalize sq * 30011 % 998244353 = sc at hd0 hd1 ⊢
      refine ⟨_, rfl, _, _, rfl, rfl, ?_⟩
      by_cases em : (1000000 : Int) < many
      · refine ⟨true, bT em, iteT ?_⟩
        refine ⟨_, rfl, _, _, rfl, rfl, .inl ⟨by omega, by omega⟩, _, rfl, _, _, rfl, rfl, .inl ⟨_, rfl, _, rfl, _, _, rfl, rfl, by show 0 < many; omega, q _ _ go (hmm _).1 (hmm _).2⟩⟩
      · refine ⟨false, bF em, iteF ?_⟩
        refine ⟨_, rfl, _, _, rfl, rfl, wide_div (b := 62) (by decide) (by decide) (by decide) (by decide), .inl ⟨_, rfl, _, rfl, _, _, rfl, rfl, by show 0 < many; omega, q _ _ go (hmm _).1 (hmm _).2⟩⟩
  have hsq : SqL K H b [.int n0, .int n1, .int n2, .ref c] := .inl (.inl hb)
  refine ⟨_, rfl, _, _, _, _, rfl, rfl, hsq, at0, rfl, ?_⟩
  by_cases e0 : n0 = 0
  · refine ⟨true, bT (by rw [e0]), iteT ?_⟩
    refine seq_set ?_
    simp only [tC_eq, gN_eq]
    refine seq_mk (fun σ' H1 => ∃ x : Int, 0 ≤ x ∧ σ' = [some (V.ref b), some (V.int many), some (V.int x), none, none, none, none] ∧ H1 = H) ?_ fun rest2 => ?_
    · rintro σ' H1 ⟨x, hx, rfl, rfl⟩
      -- bag[2] += 1
      refine ⟨_, rfl, b, _, 2, _, rfl, rfl, hsq, by decide, by decide, rfl, _, _, rfl, rfl, b, _, 2, 2, rfl, rfl, hb, rfl, ?_⟩
      have hne : c ≠ b := fun z => by rw [z, hb] at hc; cases hc
      have go1 := bag_put (n0 := n0) (n1 := n1) (n2 := n2 + 1) bag (SmB.refl b H1) hc ⟨_, hb, fun _ _ z => nomatch z⟩ h0 h1 h2 (by omega) h4
      have ec1 : (upd H1 b (.lst [.int n0, .int n1, .int (n2 + 1), .ref c])) c = some (.frz od (.lst (cells.map V.int))) := by rw [upd_ne hne]; exact hc
      have eb1 : (upd H1 b (.lst [.int n0, .int n1, .int (n2 + 1), .ref c])) b = some (.lst [.int n0, .int n1, .int (n2 + 1), .ref c]) := upd_same
      dsimp only
      refine seq_mk (fun σ' H2 => ∃ m0 : Int, 0 ≤ m0 ∧ σ' = [some (V.ref b), some (V.int many), some (V.int x), none, none, none, none] ∧ Go (some b) H1 H2 ∧ H2 b = some (.lst [.int m0, .int n1, .int (n2 + 1), .ref c]) ∧ H2 c = some (.frz od (.lst (cells.map V.int)))) ?_ fun rest3 => ?_
      · rintro σ' H2 ⟨m0, hm0, rfl, go2, eb2, ec2⟩
        have hsq2 : SqL K H2 b [.int m0, .int n1, .int (n2 + 1), .ref c] := .inl (.inl eb2)
        refine ⟨_, rfl, _, _, _, _, rfl, rfl, hsq2, at1, _, _, rfl, rfl, .inl ⟨by omega, by omega⟩, _, rfl, .inl ⟨_, rfl, _, _, rfl, rfl, by show (0 : Int) < 2147483647; decide, ?_⟩⟩
        refine ⟨_, _, rfl, rfl, _, rfl, _, _, _, _, rfl, rfl, hsq2, at2, _, _, rfl, rfl, .inl ⟨by decide, by decide⟩, _, _, rfl, rfl, ?_⟩
        refine ⟨_, rfl, .inl ⟨_, rfl, _, _, rfl, rfl, by show (0 : Int) < 2147483647; decide, ?_⟩⟩
        refine ⟨_, rfl, b, _, 1, 1, rfl, rfl, eb2, rfl, ?_⟩
        generalize hmx : n1 * 48271 + x % 2147483647 + 7919 * (n2 + 1) = mx
        have hr0 := Int.emod_nonneg mx (by decide : (2147483647 : Int) ≠ 0)
        have hr1 := Int.emod_lt_of_pos mx (by decide : (0 : Int) < 2147483647)
        refine rest _ _ ⟨m0, mx % 2147483647, n2 + 1, _, _, rfl, bag_put bag go2.2.1 ec2 ⟨_, eb2, fun _ _ z => nomatch z⟩ hm0 hr0 (by omega) (by omega) h4, upd_same, by rw [upd_ne hne]; exact ec2, hm0, hr0, by omega, by omega⟩
      · refine ⟨_, rfl, _, _, rfl, rfl, ?_⟩
        by_cases ex : (1000000000000000000 : Int) ≤ x
        · refine ⟨true, bT ex, iteT ⟨_, rfl, _, rfl, b, _, 0, 0, rfl, rfl, eb1, rfl, rest3 _ _ ⟨x, by omega, rfl, ?_, upd_same, by rw [upd_ne hne]; exact ec1⟩⟩⟩
          exact bag_put bag go1.2.1 ec1 ⟨_, eb1, fun _ _ z => nomatch z⟩ (by omega) h1 h2 (by omega) h4
        · exact ⟨false, bF ex, iteF (rest3 _ _ ⟨n0, h0, rfl, go1, eb1, ec1⟩)⟩
    · refine ⟨_, rfl, _, _, _, _, rfl, rfl, hsq, at2, _, rfl, _, _, _, _, rfl, rfl, hsq, at3, _, _, rfl, .inl ⟨_, .inl (.inr ⟨_, hc⟩), rfl⟩, _, _, rfl, rfl, ?_⟩
      by_cases el : n2 < (((cells.map V.int).length : Nat) : Int)
      · have hl2 : n2.toNat < cells.length := by rw [List.length_map] at el; omega
        have hget : (cells.map V.int)[n2.toNat]? = some (.int cells[n2.toNat]) := by rw [List.getElem?_map, List.getElem?_eq_getElem hl2]; rfl
        have hat : atI (cells.map V.int) n2 = some (.int cells[n2.toNat]) := by
          have := atI_nat hget
          rw [Int.toNat_of_nonneg h3] at this
          exact this
        refine ⟨true, bT el, iteT ⟨_, rfl, _, _, _, _, rfl, rfl, hsq, at3, _, rfl, _, _, _, _, rfl, rfl, hsq, at2, _, _, _, _, rfl, rfl, .inl (.inr ⟨_, hc⟩), hat, rest2 _ _ ⟨_, h4 _ (List.getElem_mem hl2), rfl, rfl⟩⟩⟩
      · exact ⟨false, bF el, iteF (rest2 _ _ ⟨0, Int.le_refl _, rfl, rfl⟩)⟩
  · exact ⟨false, bF (fun z => e0 (V.int.inj z)), iteF (rest _ _ ⟨n0, n1, n2, _, _, rfl, go_bag bag, hb, hc, h0, h1, h2, h3⟩)⟩
end Fp

/-! ## FpGenB -/
set_option Elab.async false
set_option linter.all false
set_option maxRecDepth 100000
set_option maxHeartbeats 2000000
namespace Fp
open PySem PySem.Spec PyProof.Rows L2
variable {P : Program} {w : World} {K : PySem.W.Frag} {mg : Str → Option Value} {base : Heap}
/-- a list, at rest or not -/
def Ls (H : Hp) (p : Addr) (xs : List V) : Prop := ∃ o, H p = some o ∧ (o = .lst xs ∨ ∃ ob, o = .frz ob (.lst xs))
theorem Ls.seq {H : Hp} {p : Addr} {xs : List V} (h : Ls H p xs) : SqL K H p xs := by
  obtain ⟨o, e, rfl | ⟨ob, rfl⟩⟩ := h
  · exact .inl (.inl e)
  · exact .inl (.inr ⟨_, e⟩)
theorem Ls.go {m : Option Addr} {H H' : Hp} {p : Addr} {xs : List V} (h : Ls H p xs) (g : Go m H H') (n : ∀ b, m = some b → p ≠ b) : Ls H' p xs := by
  obtain ⟨o, e, r⟩ := h
  exact ⟨o, g.own n e, r⟩
theorem ls_new {H : Hp} {p : Addr} {xs : List V} : Ls (upd H p (.lst xs)) p xs := ⟨_, upd_same, .inl rfl⟩
/-! ### the bag -/
/-- slots: 0 _law_script, 1 _law_cell -/
abbrev N_l_bag : List Str := [Str.ofString "_law_script", Str.ofString "_law_cell"]
theorem sc_l_bag : FnScope N_l_bag [Str.ofString "_law_script"] (defScope s_l_bag) := ⟨rfl, rfl, rfl, by decide +kernel, rfl, by decide +kernel, by decide +kernel⟩
def S_bag (K : PySem.W.Frag) : Sq := fun vs H Q => ∃ (a : Addr) (cells : List Int), vs = [.ref a] ∧ SqL K H a (cells.map V.int) ∧ ∀ b H', Same H H' → Bag H' b → Q (.ref b) H'
theorem r_bag (T : Tx K mg) : FnR P w K mg base CX0 1 (a_l_bag K) (sp (S_bag K)) := by
  refine fr_of (S := (S_bag K)) (N := N_l_bag) (f_l_bag T) sc_l_bag (fun vs H Q h => by first | (obtain ⟨rfl, _⟩ := h; rfl) | (obtain ⟨_, rfl, _⟩ := h; rfl) | (obtain ⟨_, _, rfl, _⟩ := h; rfl) | (obtain ⟨_, _, _, rfl, _⟩ := h; rfl) | (obtain ⟨_, _, _, _, rfl, _⟩ := h; rfl) | (obtain ⟨_, _, _, _, _, rfl, _⟩ := h; rfl) | (obtain ⟨_, _, _, _, _, _, rfl, _⟩ := h; rfl) | (obtain ⟨_, _, _, _, _, _, _, rfl, _⟩ := h; rfl) | (obtain ⟨_, _, _, _, _, _, _, _, rfl, _⟩ := h; rfl) | (obtain ⟨_, _, _, _, _, _, _, _, _, rfl, _⟩ := h; rfl) | (obtain ⟨_, _, _, _, _, _, _, _, _, _, rfl, _⟩ := h; rfl) | (obtain ⟨_, _, _, _, _, _, _, _, _, _, _, rfl, _⟩ := h; rfl) | (obtain ⟨_, _, _, _, _, _, _, _, _, _, _, _, rfl, _⟩ := h; rfl) | (obtain ⟨_, _, _, _, _, _, _, _, _, _, _, _, _, rfl, _⟩ := h; rfl) | (obtain ⟨_, _, _, _, _, _, _, _, _, _, _, _, _, _, rfl, _⟩ := h; rfl) | (obtain ⟨_, _, _, _, _, _, _, _, _, _, _, _, _, _, _, rfl, _⟩ := h; rfl) | (obtain ⟨_, _, _, _, _, _, _, _, _, _, _, _, _, _, _, _, rfl, _⟩ := h; rfl)) (fun _ _ _ _ _ _ us hl => match us, hl with | [_], _ => rfl) (fun cdv A outer s H vs Q E hr h => ?_)
  obtain ⟨a, cells, rfl, ha, q⟩ := h
  refine ⟨_, (pss_one (ps_ret (pe_lst (pa_cons pe_int (pa_cons pe_int (pa_cons pe_int (pa_cons (pe_fz (pe_lc (own := [("_law_cell", 1)]) (g := gName 1) rfl sc_l_bag.nd (piList K rfl (pe_slice (slL K rfl) (pv 0) po_none (po_some pe_int))) (blkOk_by (own := [("_law_cell", 1)]) (N := N_l_bag) (sc := defScope s_l_bag) (by decide +kernel)) (fun _ _ _ _ _ => (pg_name (i := 1) sc_l_bag.nd rfl (.inl rfl))) (fun _ _ _ _ _ => pts_nil) (fun _ _ _ _ _ => (pe_callB call_abs rfl (n_abs T) (by decide +kernel) (pa_cons (pv 1) pa_nil))))) pa_nil))))))), ?_⟩
  refine ⟨_, rfl, _, rfl, a, _, rfl, ha, fun c hc => ?_⟩
  have s1 : Same H (upd H c (.lst (cutV (cells.map V.int) none (some 63)))) := same_new hc
  have ec : cutV (cells.map V.int) none (some 63) = (cells.take 63).map V.int := by
    show List.take _ (List.drop 0 _) = _
    rw [List.drop_zero, List.map_take]
    show List.take (HT.sIx _ _ (some ((63 : Nat) : Int)) - 0) _ = _
    rw [HT.sIx_nat, Nat.sub_zero, List.length_map]
    rcases Nat.le_total 63 cells.length with z | z
    · rw [Nat.min_eq_left z]
    · rw [Nat.min_eq_right z, List.take_of_length_le (by simp), List.take_of_length_le (by simpa using z)]
  refine ⟨c, rfl, ⟨_, .inl (.inl upd_same)⟩, fun D hD => ?_⟩
  rw [ec] at hD s1 ⊢
  have hb2 : (cells.take 63).length ≤ 63 := List.length_take_le _ _
  refine lc_m (wd_list (of_ints (H := H) (cells.take 63))) none rInt (fun i => if i < 0 then -i else i) hD (go_refl _) (fun H' g => .inl (.inl (g _ _ upd_same))) (sz1000 (by omega)) (fun i v H1 H' L hi go y fin => ?_) fun H3 acc go hD2 pa => ?_
  · obtain ⟨rfl, rfl⟩ := y
    exact ⟨rfl, yes ⟨_, rfl, _, rfl, fin _ _ (go_refl _) rfl⟩⟩
  · refine ⟨D, _, rfl, hD2, trivial, fun od => ?_⟩
    have sA := s1.trans go
    have s4 : Same H (upd H3 D (.frz od (.lst acc))) := Same.mut sA (s1.free hD)
    refine ⟨ln4, fun b hb => q b _ (s4.trans (same_new hb)) ⟨0, 1234567891, 0, D, od, (cells.take 63).map (fun i => if i < 0 then -i else i), upd_same, ?_, by decide, by decide, by decide, by decide, fun x hx => ?_⟩⟩
    · rw [upd_ne (fun z => by rw [← z, upd_same] at hb; cases hb), upd_same, ints_of pa]
    · obtain ⟨i, _, rfl⟩ := List.mem_map.mp hx
      split <;> omega
/-! ### mixing -/
/-- slots: 0 _law_bag_here, 1 _law_things, 2 _law_found, 3 _law_thing -/
abbrev N_l_mixed : List Str := [Str.ofString "_law_bag_here", Str.ofString "_law_things", Str.ofString "_law_found", Str.ofString "_law_thing"]
theorem sc_l_mixed : FnScope N_l_mixed [Str.ofString "_law_bag_here", Str.ofString "_law_things"] (defScope s_l_mixed) := ⟨rfl, rfl, rfl, by decide +kernel, rfl, by decide +kernel, by decide +kernel⟩
def S_mixed : Sq := fun vs H Q => ∃ (b p : Addr) (zs : List Str), vs = [.ref b, .ref p] ∧ Bag H b ∧ p ≠ b ∧ Ls H p (zs.map V.str) ∧ zs.length ≤ 100 ∧
  ∀ v ys H', Go (some b) H H' → ys.Perm zs → rLst rStr H' v ys → Q v H'
theorem r_mixed (T : Tx K mg) (c_l_take : Cal P w K mg base 1 "_law_take" S_take) : FnR P w K mg base CX0 2 (a_l_mixed K) (sp S_mixed) := by
  refine fr_of (S := S_mixed) (N := N_l_mixed) (f_l_mixed T) sc_l_mixed (fun vs H Q h => by first | (obtain ⟨rfl, _⟩ := h; rfl) | (obtain ⟨_, rfl, _⟩ := h; rfl) | (obtain ⟨_, _, rfl, _⟩ := h; rfl) | (obtain ⟨_, _, _, rfl, _⟩ := h; rfl) | (obtain ⟨_, _, _, _, rfl, _⟩ := h; rfl) | (obtain ⟨_, _, _, _, _, rfl, _⟩ := h; rfl) | (obtain ⟨_, _, _, _, _, _, rfl, _⟩ := h; rfl) | (obtain ⟨_, _, _, _, _, _, _, rfl, _⟩ := h; rfl) | (obtain ⟨_, _, _, _, _, _, _, _, rfl, _⟩ := h; rfl) | (obtain ⟨_, _, _, _, _, _, _, _, _, rfl, _⟩ := h; rfl) | (obtain ⟨_, _, _, _, _, _, _, _, _, _, rfl, _⟩ := h; rfl) | (obtain ⟨_, _, _, _, _, _, _, _, _, _, _, rfl, _⟩ := h; rfl) | (obtain ⟨_, _, _, _, _, _, _, _, _, _, _, _, rfl, _⟩ := h; rfl) | (obtain ⟨_, _, _, _, _, _, _, _, _, _, _, _, _, rfl, _⟩ := h; rfl) | (obtain ⟨_, _, _, _, _, _, _, _, _, _, _, _, _, _, rfl, _⟩ := h; rfl) | (obtain ⟨_, _, _, _, _, _, _, _, _, _, _, _, _, _, _, rfl, _⟩ := h; rfl) | (obtain ⟨_, _, _, _, _, _, _, _, _, _, _, _, _, _, _, _, rfl, _⟩ := h; rfl)) (fun _ _ _ _ _ _ us hl => match us, hl with | [_, _], _ => rfl) (fun cdv A outer s H vs Q E hr h => ?_)
  obtain ⟨b, p, zs, rfl, bag, hpb, hp, hl, q⟩ := h
  refine ⟨_, (pss_cons (ps_set (i := 2) sc_l_mixed.nd rfl (.inl rfl) (pe_lst pa_nil))
      (pss_cons (ps_for PassesOwn.never rfl (piList K rfl (pv 1)) (pg_name (i := 3) sc_l_mixed.nd rfl (.inl rfl)) (pss_one (ps_expr (pe_bm PySem.F.plainAttrs_list PySem.F.slot_list_insert PySem.F.type_list_insert mt_insert (pv 2) (pa_cons (pcall c_l_take hr (by decide) rfl (pa_cons (pv 0) (pa_cons (pe_op op_add (pe_callB (cLen K rfl) rfl (n_len T) (by decide +kernel) (pa_cons (pv 2) pa_nil)) pe_int) pa_nil))) (pa_cons (pv 3) pa_nil))))))
      (pss_one (ps_ret (pe_fz (pv 2)))))), ?_⟩
  refine ⟨Nat.zero_le _, fun f hfn => ?_⟩
  have g0 : Go (some b) H (upd H f (.lst [])) := (go_bag bag).new hfn
  refine ⟨_, rfl, p, rfl, ⟨_, (hp.go g0 fun b' e => by cases e; exact hpb).seq⟩, ?_⟩
  refine for_d (wd_list (of_strs (H := H) zs)) (fun (d : List Str) (σ : L2.St) (H' : Hp) => ∃ y3, σ = [some (V.ref b), some (V.ref p), some (V.ref f), y3] ∧ Go (some b) H H' ∧ ∃ ys : List Str, H' f = some (.lst (ys.map V.str)) ∧ ys.Perm d) ?_ ?_ ?_ ?_
  · exact ⟨none, rfl, g0, [], upd_same, .nil⟩
  · rintro d σ H' ⟨_, _, g, _⟩
    exact (hp.go g fun b' e => by cases e; exact hpb).seq
  · rintro d x rr z σ H2 H' el ⟨y3, rfl, g, ys, hf, pm⟩ ⟨rfl, rfl⟩
    have hd : d.length < 100 := by
      have := congrArg List.length el
      rw [List.length_append, List.length_cons] at this
      omega
    have hyl : ys.length = d.length := pm.length_eq
    have hfb : ∀ b', some b = some b' → f ≠ b' := g0.nb hfn |> fun n b' e => n b' e
    refine ⟨_, rfl, .inl ⟨rfl, _, .inl (.inl hf)⟩, _, rfl, _, rfl, _, _, rfl, .inl ⟨_, .inl (.inl hf), rfl⟩, _, _, rfl, rfl, b, _, rfl, g.bag, ?_, ?_, fun v H3 g3 h0 h1 => ?_⟩
    · rw [List.length_map]; omega
    · rw [List.length_map]; omega
    · rw [List.length_map] at h1
      have hf3 : H3 f = some (.lst (ys.map V.str)) := g3.own hfb hf
      refine ⟨_, rfl, f, _, v, _, rfl, rfl, hf3, ?_, h0, by omega, ?_⟩
      · rw [List.length_map]; exact big (by omega)
      · refine ⟨_, rfl, ?_, ys.take v.toNat ++ [x] ++ ys.drop v.toNat, ?_, ?_⟩
        · exact (g.trans g3).mut hfn (fun od u q => by rw [hf3] at q; cases q)
        · rw [upd_same, List.map_append, List.map_append, List.map_take, List.map_drop]; rfl
        · have h1 : (ys.take v.toNat ++ [x] ++ ys.drop v.toNat).Perm (x :: (ys.take v.toNat ++ ys.drop v.toNat)) := by
            rw [List.append_assoc]
            exact List.perm_middle
          rw [List.take_append_drop] at h1
          exact h1.trans ((pm.cons x).trans (List.perm_append_singleton x d).symm)
  · rintro σ H2 ⟨y3, rfl, g, ys, hf, pm⟩
    refine ⟨_, rfl, f, _, rfl, hf, trivial, fun od => ?_⟩
    exact q _ ys _ (g.mut hfn (fun od u q => by rw [hf] at q; cases q)) pm ⟨f, od, _, rfl, upd_same, of_strs ys⟩
/-! ### numbers -/
theorem op_srep {X : Cx} : OpR X (binaryOp .Mult) (fun x y H Q => ∃ a n, x = .str a ∧ y = .int n ∧ MulOk a n ∧ Q (.str (Txt.mul a n)) H) := by
  intro pins s σ H x y v u Q I rx ry h
  obtain ⟨a, n, rfl, rfl, hz, q⟩ := h
  obtain ⟨t, rfl⟩ := rx
  obtain ⟨t', rfl⟩ := ry
  exact SB.mul hz fun t' tk => ⟨.str (Txt.mul a n), H, I.tok _, ⟨_, rfl⟩, q⟩
theorem num_ok : ∀ v : Nat, v < 38 → MulOk "0" (1 + (v : Int)) ∧ (PySem.intText? ("1" ++ Txt.mul "0" (1 + (v : Int)))).isSome = true ∧ ("1" ++ Txt.mul "0" (1 + (v : Int)) : Str).length ≤ 640 ∧ ("1" : Str).length + (Txt.mul "0" (1 + (v : Int))).length ≤ 640 := by
  unfold MulOk
  decide +kernel
/-- slots: 0 _law_bag_here, 1 _law_wide -/
abbrev N_l_number : List Str := [Str.ofString "_law_bag_here", Str.ofString "_law_wide"]
theorem sc_l_number : FnScope N_l_number [Str.ofString "_law_bag_here"] (defScope s_l_number) := ⟨rfl, rfl, rfl, by decide +kernel, rfl, by decide +kernel, by decide +kernel⟩
def S_number : Sq := fun vs H Q => ∃ (b : Addr), vs = [.ref b] ∧ Bag H b ∧ ∀ i H', Go (some b) H H' → Q (.int i) H'
theorem r_number (T : Tx K mg) (c_l_take : Cal P w K mg base 1 "_law_take" S_take) : FnR P w K mg base CX0 2 (a_l_number K) (sp S_number) := by
  refine fr_of (S := S_number) (N := N_l_number) (f_l_number T) sc_l_number (fun vs H Q h => by first | (obtain ⟨rfl, _⟩ := h; rfl) | (obtain ⟨_, rfl, _⟩ := h; rfl) | (obtain ⟨_, _, rfl, _⟩ := h; rfl) | (obtain ⟨_, _, _, rfl, _⟩ := h; rfl) | (obtain ⟨_, _, _, _, rfl, _⟩ := h; rfl) | (obtain ⟨_, _, _, _, _, rfl, _⟩ := h; rfl) | (obtain ⟨_, _, _, _, _, _, rfl, _⟩ := h; rfl) | (obtain ⟨_, _, _, _, _, _, _, rfl, _⟩ := h; rfl) | (obtain ⟨_, _, _, _, _, _, _, _, rfl, _⟩ := h; rfl) | (obtain ⟨_, _, _, _, _, _, _, _, _, rfl, _⟩ := h; rfl) | (obtain ⟨_, _, _, _, _, _, _, _, _, _, rfl, _⟩ := h; rfl) | (obtain ⟨_, _, _, _, _, _, _, _, _, _, _, rfl, _⟩ := h; rfl) | (obtain ⟨_, _, _, _, _, _, _, _, _, _, _, _, rfl, _⟩ := h; rfl) | (obtain ⟨_, _, _, _, _, _, _, _, _, _, _, _, _, rfl, _⟩ := h; rfl) | (obtain ⟨_, _, _, _, _, _, _, _, _, _, _, _, _, _, rfl, _⟩ := h; rfl) | (obtain ⟨_, _, _, _, _, _, _, _, _, _, _, _, _, _, _, rfl, _⟩ := h; rfl) | (obtain ⟨_, _, _, _, _, _, _, _, _, _, _, _, _, _, _, _, rfl, _⟩ := h; rfl)) (fun _ _ _ _ _ _ us hl => match us, hl with | [_], _ => rfl) (fun cdv A outer s H vs Q E hr h => ?_)
  obtain ⟨b, rfl, bag, q⟩ := h
  refine ⟨_, (pss_cons (ps_if (pt_cmpR op_eq (pcall c_l_take hr (by decide) rfl (pa_cons (pv 0) (pa_cons pe_int pa_nil))) pe_int (nomark _)) (pss_cons (ps_set (i := 1) sc_l_number.nd rfl (.inl rfl) (pe_op op_sub (pe_callTy call_int_str rfl (n_int T) (by decide +kernel) (pa_cons (pe_op op_add_str pe_str (pe_op op_srep pe_str (pe_op op_add pe_int (pcall c_l_take hr (by decide) rfl (pa_cons (pv 0) (pa_cons pe_int pa_nil)))))) pa_nil)) (pcall c_l_take hr (by decide) rfl (pa_cons (pv 0) (pa_cons pe_int pa_nil)))))
        (pss_one (ps_ret (pe_ifExp (pt_cmpR op_eq (pcall c_l_take hr (by decide) rfl (pa_cons (pv 0) (pa_cons pe_int pa_nil))) pe_int (nomark _)) (pv 1) (pe_un un_neg (pv 1)))))) pss_nil)
      (pss_one (ps_ret (pe_op op_sub (pcall c_l_take hr (by decide) rfl (pa_cons (pv 0) (pa_cons pe_int pa_nil))) pe_int)))), ?_⟩
  refine ⟨_, rfl, b, _, rfl, bag, by decide, by decide, fun v H1 g1 _ _ => ?_⟩
  refine ⟨rfl, ?_⟩
  by_cases e0 : v = 0
  · refine ⟨true, bT (by rw [e0]), iteT ?_⟩
    refine ⟨_, rfl, b, _, rfl, g1.bag, by decide, by decide, fun n H2 g2 h0 h1 => ?_⟩
    obtain ⟨m1, m2, m3, m4⟩ := num_ok n.toNat (by omega)
    rw [Int.toNat_of_nonneg h0] at m1 m2 m3 m4
    obtain ⟨i, hi⟩ := Option.isSome_iff_exists.mp m2
    refine ⟨_, _, rfl, rfl, _, _, rfl, rfl, m1, _, _, rfl, rfl, Nat.le_trans m4 (by decide), _, _, rfl, hi, m3, ?_⟩
    refine ⟨_, rfl, b, _, rfl, g2.bag, by decide, by decide, fun n2 H3 g3 _ _ => ?_⟩
    have gA := (g1.trans g2).trans g3
    refine ⟨_, _, rfl, rfl, ?_⟩
    refine ⟨_, rfl, b, _, rfl, g3.bag, by decide, by decide, fun n3 H4 g4 _ _ => ⟨rfl, ?_⟩⟩
    by_cases e3 : n3 = 0
    · exact ⟨true, bT (by rw [e3]), iteT ⟨_, rfl, q _ _ (gA.trans g4)⟩⟩
    · exact ⟨false, bF (fun z => e3 (V.int.inj z)), iteF ⟨_, rfl, _, rfl, q _ _ (gA.trans g4)⟩⟩
  · refine ⟨false, bF (fun z => e0 (V.int.inj z)), iteF ?_⟩
    exact ⟨_, rfl, b, _, rfl, g1.bag, by decide, by decide, fun n H2 g2 _ _ => ⟨_, _, rfl, rfl, q _ _ (g1.trans g2)⟩⟩
end Fp

/-! ## FpGenC -/
set_option Elab.async false
set_option linter.all false
set_option maxRecDepth 100000
set_option maxHeartbeats 2000000
namespace Fp
open PySem PySem.Spec PyProof.Rows L2
variable {P : Program} {w : World} {K : PySem.W.Frag} {mg : Str → Option Value} {base : Heap}
theorem cutV_hi (xs : List V) (k : Nat) : cutV xs none (some (k : Int)) = xs.take k := by
  show List.take (HT.sIx _ _ (some (k : Int)) - 0) (List.drop 0 _) = _
  rw [HT.sIx_nat, List.drop_zero, Nat.sub_zero]
  rcases Nat.le_total k xs.length with z | z
  · rw [Nat.min_eq_left z]
  · rw [Nat.min_eq_right z, List.take_of_length_le (Nat.le_refl _), List.take_of_length_le z]
theorem cutV_lo (xs : List V) (k : Nat) : cutV xs (some (k : Int)) none = xs.drop k := by
  show List.take (xs.length - HT.sIx _ _ (some (k : Int))) (List.drop (HT.sIx _ _ (some (k : Int))) _) = _
  rw [HT.sIx_nat]
  rcases Nat.le_total k xs.length with z | z
  · rw [Nat.min_eq_left z, List.take_of_length_le (by rw [List.length_drop]; exact Nat.le_refl _)]
  · rw [Nat.min_eq_right z, List.drop_of_length_le (Nat.le_refl _), List.drop_of_length_le z, List.take_nil]
/-! ### names -/
def lettersS : Str := "abcdefghijklmnopqrstuvwxyz"
theorem letters_eq : lettersS.cps.toList = letters := rfl
theorem letters_len : letters.length = 26 := by decide +kernel
def IsLt (z : Str) : Prop := ∃ c ∈ letters, z = ⟨#[c]⟩
def AllL (z : Str) : Prop := ∀ c ∈ z.cps.toList, c ∈ letters
theorem letter_at {i : Int} (h0 : 0 ≤ i) (h1 : i < 26) : ∃ c, atI lettersS.cps.toList i = some c ∧ IsLt ⟨#[c]⟩ := by
  have hl : i.toNat < letters.length := by rw [letters_len]; omega
  have := atI_nat (j := i.toNat) (List.getElem?_eq_getElem hl)
  rw [Int.toNat_of_nonneg h0] at this
  exact ⟨_, this, _, List.getElem_mem hl, rfl⟩
theorem lettersS_len : lettersS.length ≤ sizeLine := by decide +kernel
theorem len_app (a b : Str) : (a ++ b).length = a.length + b.length := Array.size_append
theorem cps_app (a b : Str) : (a ++ b).cps.toList = a.cps.toList ++ b.cps.toList := Array.toList_append
theorem AllL.app {a b : Str} (h : AllL a) (h2 : AllL b) : AllL (a ++ b) := fun c hc => by
  rw [cps_app] at hc
  rcases List.mem_append.mp hc with z | z
  · exact h c z
  · exact h2 c z
theorem IsLt.all {z : Str} (h : IsLt z) : AllL z ∧ z.length = 1 := by
  obtain ⟨c, hc, rfl⟩ := h
  refine ⟨fun d hd => ?_, rfl⟩
  have : d = c := by simpa using hd
  rw [this]; exact hc
theorem IsLt.nm {z : Str} (h : IsLt z) : IsNm z := ⟨by rw [h.all.2]; decide, by rw [h.all.2]; decide, h.all.1⟩
theorem jn {s : Str} (hs : s.cps = #[]) : ∀ {zs : List Str}, (∀ z ∈ zs, IsLt z) → (Str.join s zs).length = zs.length ∧ AllL (Str.join s zs)
  | [], _ => ⟨rfl, fun c hc => absurd hc (by show ¬ c ∈ ([] : List Nat); simp)⟩
  | [x], h => ⟨(h x (by simp)).all.2, (h x (by simp)).all.1⟩
  | x :: y :: r, h => by
    obtain ⟨h1, h2⟩ := jn hs (zs := y :: r) fun z hz => h z (List.mem_cons_of_mem _ hz)
    obtain ⟨h3, h4⟩ := (h x (by simp)).all
    have hs0 : s.length = 0 := by show s.cps.size = 0; rw [hs]; rfl
    have hsA : AllL s := fun c hc => by rw [hs] at hc; simp at hc
    refine ⟨?_, (h3.app hsA).app h2⟩
    show (x ++ s ++ Str.join s (y :: r)).length = _
    rw [len_app, len_app, h1, h4, hs0]
    simp only [List.length_cons]
    omega
theorem sum_one : ∀ {zs : List Str}, (∀ z ∈ zs, IsLt z) → (zs.map (·.length)).sum = zs.length
  | [], _ => rfl
  | x :: r, h => by
    rw [List.map_cons, List.sum_cons, sum_one fun z hz => h z (List.mem_cons_of_mem _ hz), (h x (by simp)).all.2, List.length_cons]
    omega
theorem AllL.cut {z : Str} {lo hi : Option Int} (h : AllL z) : AllL (cutS z lo hi) := fun c hc => by
  unfold cutS at hc
  rw [List.toList_toArray] at hc
  exact h c (List.mem_of_mem_drop (List.mem_of_mem_take hc))
theorem mid_nm {z m : Str} {v : Int} (hz : AllL z) (hl : z.length ≤ 7) (h0 : 0 ≤ v) (h1 : v ≤ z.length) (hm : IsLt m) : IsNm (cutS z none (some v) ++ m ++ cutS z (some v) none) := by
  have e1 : (cutS z none (some v)).length = v.toNat := by
    show (((z.cps.toList.drop 0).take (HT.sIx z.length z.length (some v) - 0)).toArray).size = _
    rw [show v = ((v.toNat : Nat) : Int) by omega, HT.sIx_nat, List.size_toArray, List.length_take, List.drop_zero, Array.length_toList]
    show min (min v.toNat z.length - 0) z.length = _
    omega
  have e2 : (cutS z (some v) none).length = z.length - v.toNat := by
    show (((z.cps.toList.drop (HT.sIx z.length 0 (some v))).take (z.length - HT.sIx z.length 0 (some v))).toArray).size = _
    rw [show v = ((v.toNat : Nat) : Int) by omega, HT.sIx_nat, List.size_toArray, List.length_take, List.length_drop, Array.length_toList]
    show min (z.length - min v.toNat z.length) (z.length - min v.toNat z.length) = _
    omega
  refine ⟨?_, ?_, (hz.cut.app hm.all.1).app hz.cut⟩
  · rw [len_app, len_app, hm.all.2]; omega
  · rw [len_app, len_app, hm.all.2, e1, e2]; omega
def wordsS : List Str := Txt.split ("set most least call skip run part steps first names params results places plain high" ++ " low proc wide endless never a b ab ba z") " "
theorem words_nm : wordsS.length = 25 ∧ ∀ y ∈ wordsS, IsNm y := by
  unfold IsNm letters
  decide +kernel
theorem p_len {α β : Type} {A : α → β → Prop} {l : List α} {zs : List β} (p : Paired A l zs) : zs.length = l.length := (Paired.length p).symm
theorem p_all {α β : Type} {B : β → Prop} : ∀ {l : List α} {zs : List β}, Paired (fun _ z => B z) l zs → ∀ z ∈ zs, B z
  | _, _, .nil, _, h => absurd h (List.not_mem_nil)
  | _, _, .cons p t, z, h => by
    rcases List.mem_cons.mp h with e | h
    · rw [e]; exact p
    · exact p_all t z h
/-- slots: 0 _law_bag_here*, 1 _law_many, 2 _law_letters*, 3 _law_words, 4 _law_style, 5 _law_turn*, 6 _law_base*, 7 _law_at*, 8 _law_k -/
abbrev N_l_names : List Str := [Str.ofString "_law_bag_here", Str.ofString "_law_many", Str.ofString "_law_letters", Str.ofString "_law_words", Str.ofString "_law_style", Str.ofString "_law_turn", Str.ofString "_law_base", Str.ofString "_law_at", Str.ofString "_law_k"]
theorem sc_l_names : FnScope N_l_names [Str.ofString "_law_bag_here", Str.ofString "_law_many"] (defScope s_l_names) := ⟨rfl, rfl, rfl, by decide +kernel, rfl, by decide +kernel, by decide +kernel⟩
def S_names : Sq := fun vs H Q => ∃ (b : Addr) (many : Int), vs = [.ref b, .int many] ∧ Bag H b ∧ 0 ≤ many ∧ many ≤ 3 ∧
  ∀ v ys H', Go (some b) H H' → rLst rStr H' v ys → (∀ y ∈ ys, IsNm y) → ys.length ≤ 3 → (0 < many → ys ≠ []) → Q v H'
theorem r_names (T : Tx K mg) (c_l_take : Cal P w K mg base 1 "_law_take" S_take) : FnR P w K mg base CX0 2 (a_l_names K) (sp S_names) := by
  refine fr_of (S := S_names) (N := N_l_names) (f_l_names T) sc_l_names (fun vs H Q h => by first | (obtain ⟨rfl, _⟩ := h; rfl) | (obtain ⟨_, rfl, _⟩ := h; rfl) | (obtain ⟨_, _, rfl, _⟩ := h; rfl) | (obtain ⟨_, _, _, rfl, _⟩ := h; rfl) | (obtain ⟨_, _, _, _, rfl, _⟩ := h; rfl) | (obtain ⟨_, _, _, _, _, rfl, _⟩ := h; rfl) | (obtain ⟨_, _, _, _, _, _, rfl, _⟩ := h; rfl) | (obtain ⟨_, _, _, _, _, _, _, rfl, _⟩ := h; rfl) | (obtain ⟨_, _, _, _, _, _, _, _, rfl, _⟩ := h; rfl) | (obtain ⟨_, _, _, _, _, _, _, _, _, rfl, _⟩ := h; rfl) | (obtain ⟨_, _, _, _, _, _, _, _, _, _, rfl, _⟩ := h; rfl) | (obtain ⟨_, _, _, _, _, _, _, _, _, _, _, rfl, _⟩ := h; rfl) | (obtain ⟨_, _, _, _, _, _, _, _, _, _, _, _, rfl, _⟩ := h; rfl) | (obtain ⟨_, _, _, _, _, _, _, _, _, _, _, _, _, rfl, _⟩ := h; rfl) | (obtain ⟨_, _, _, _, _, _, _, _, _, _, _, _, _, _, rfl, _⟩ := h; rfl) | (obtain ⟨_, _, _, _, _, _, _, _, _, _, _, _, _, _, _, rfl, _⟩ := h; rfl) | (obtain ⟨_, _, _, _, _, _, _, _, _, _, _, _, _, _, _, _, rfl, _⟩ := h; rfl)) (fun _ _ _ _ _ _ us hl => match us, hl with | [_, _], _ => rfl) (fun cdv A outer s H vs Q E hr h => ?_)
  obtain ⟨b, many, rfl, bag, hm0, hm1, q⟩ := h
  refine ⟨_, (pss_cons (ps_set (i := 2) sc_l_names.nd rfl (.inr rfl) pe_str)
      (pss_cons (ps_set (i := 3) sc_l_names.nd rfl (.inl rfl) pe_str)
      (pss_cons (ps_set (i := 3) sc_l_names.nd rfl (.inl rfl) (pe_split (pe_op op_add_str (pv 3) pe_str) pe_str))
      (pss_cons (ps_asg (pe_tup (pa_cons (pcall c_l_take hr (by decide) rfl (pa_cons (pv 0) (pa_cons pe_int pa_nil))) (pa_cons (pcall c_l_take hr (by decide) rfl (pa_cons (pv 0) (pa_cons pe_int pa_nil))) pa_nil))) (pgTup (n := 2) K rfl rfl (pgs_cons (pg_name (i := 4) sc_l_names.nd rfl (.inl rfl)) (pgs_cons (pg_name (i := 5) sc_l_names.nd rfl (.inr rfl)) pgs_nil))))
      (pss_cons (ps_set (i := 6) sc_l_names.nd rfl (.inr rfl) (pe_join pe_str (pe_lc (own := [("_law_k", 8)]) (g := gName 8) rfl sc_l_names.nd (pi_range1 rfl (n_range T) (pa_cons (pe_op op_add pe_int (pcall c_l_take hr (by decide) rfl (pa_cons (pv 0) (pa_cons pe_int pa_nil)))) pa_nil)) (blkOk_by (own := [("_law_k", 8)]) (N := N_l_names) (sc := defScope s_l_names) (by decide +kernel)) (fun _ _ _ _ _ => (pg_name (i := 8) sc_l_names.nd rfl (.inl rfl))) (fun _ _ _ _ _ => pts_nil) (fun _ _ _ _ _ => (pe_ix ix_str (pv 2) (pcall c_l_take hr (by decide) rfl (pa_cons (pv 0) (pa_cons pe_int pa_nil))) (fun _ _ => rfl))))))
      (pss_cons (ps_set (i := 7) sc_l_names.nd rfl (.inr rfl) (pcall c_l_take hr (by decide) rfl (pa_cons (pv 0) (pa_cons (pe_op op_add (pe_callB (cLen K rfl) rfl (n_len T) (by decide +kernel) (pa_cons (pv 6) pa_nil)) pe_int) pa_nil))))
      (pss_cons (ps_if (pt_cmpR op_eq (pv 4) pe_int (nomark _)) (pss_one (ps_ret (pe_fz (pe_slice (slL K rfl) (pe_op op_cat (pe_slice (slL K rfl) (pv 3) (po_some (pv 5)) po_none) (pe_slice (slL K rfl) (pv 3) po_none (po_some (pv 5)))) po_none (po_some (pv 1)))))) pss_nil)
      (pss_cons (ps_if (pt_cmpR op_eq (pv 4) pe_int (nomark _)) (pss_one (ps_ret (pe_fz (pe_lc (own := [("_law_k", 8)]) (g := gName 8) rfl sc_l_names.nd (pi_range1 rfl (n_range T) (pa_cons (pv 1) pa_nil)) (blkOk_by (own := [("_law_k", 8)]) (N := N_l_names) (sc := defScope s_l_names) (by decide +kernel)) (fun _ _ _ _ _ => (pg_name (i := 8) sc_l_names.nd rfl (.inl rfl))) (fun _ _ _ _ _ => pts_nil) (fun _ _ _ _ _ => (pe_ix ix_str (pv 2) (pe_op op_mod (pe_callTy call_int1 rfl (n_int T) (by decide +kernel) (pa_cons (pe_op op_add (pv 5) (pe_op op_mul pe_int (pv 8))) pa_nil)) pe_int) (fun _ _ => rfl))))))) pss_nil)
      (pss_one (ps_ret (pe_fz (pe_lc (own := [("_law_k", 8)]) (g := gName 8) rfl sc_l_names.nd (pi_range1 rfl (n_range T) (pa_cons (pv 1) pa_nil)) (blkOk_by (own := [("_law_k", 8)]) (N := N_l_names) (sc := defScope s_l_names) (by decide +kernel)) (fun _ _ _ _ _ => (pg_name (i := 8) sc_l_names.nd rfl (.inl rfl))) (fun _ _ _ _ _ => pts_nil) (fun _ _ _ _ _ => (pe_op op_add_str (pe_op op_add_str (pe_slice sl_str (pv 6) po_none (po_some (pv 7))) (pe_ix ix_str (pv 2) (pe_op op_mod (pe_callTy call_int1 rfl (n_int T) (by decide +kernel) (pa_cons (pe_op op_add (pv 5) (pe_op op_mul pe_int (pv 8))) pa_nil)) pe_int) (fun _ _ => rfl))) (pe_slice sl_str (pv 6) (po_some (pv 7)) po_none))))))))))))))), ?_⟩
  refine ⟨_, rfl, _, _, rfl, rfl, by decide +kernel, ⟨_, rfl⟩, _, _, rfl, rfl, rfl, by decide +kernel, fun p hp => ?_⟩
  change H p = none at hp
  have gp : Go (some b) H (upd H p (.lst (wordsS.map V.str))) := (go_bag bag).new hp
  refine ⟨_, rfl, b, _, rfl, gp.bag, by decide, by decide, fun style H1 g1 hs0 hs1 => ?_⟩
  refine ⟨_, rfl, b, _, rfl, g1.bag, by decide, by decide, fun turn H2 g2 ht0 ht1 => ?_⟩
  refine ⟨ln2, fun t ht => ?_⟩
  have s2 : Same H2 (upd H2 t (.tup [V.int style, V.int turn])) := same_new ht
  refine ⟨t, _, rfl, .inl (.inl upd_same), rfl, _, _, rfl, _, _, rfl, rfl, ?_⟩
  have gB := ((gp.trans g1).trans g2).same s2
  have hp2 : (upd H2 t (.tup [V.int style, V.int turn])) p = some (.lst (wordsS.map V.str)) := s2 _ _ (g2.own (gp.nb hp) (g1.own (gp.nb hp) upd_same))
  generalize (upd H2 t (.tup [V.int style, V.int turn])) = H3 at gB hp2 ⊢
  refine ⟨⟨_, rfl⟩, _, rfl, b, _, rfl, gB.bag, by decide, by decide, fun n7 H4 g4 h70 h71 => ?_⟩
  refine ⟨_, _, rfl, rfl, _, rfl, by omega, by omega, fun D hD => ?_⟩
  have gC := gB.trans g4
  refine lc_r wd_range (some b) rStr (fun _ z => IsLt z) hD (go_bag gC.bag) (fun _ _ => trivial) (by rw [List.length_range]; exact sz1000 (by omega)) (fun i v H5 H6 N S hi go y fin => ?_) fun H5 acc zs go hD2 pz pA => ?_
  · obtain ⟨rfl, rfl⟩ := y
    refine ⟨rfl, yes ⟨_, rfl, _, rfl, b, _, rfl, go.bag, by decide, by decide, fun i2 H6 g6 h0 h1 => ?_⟩⟩
    obtain ⟨c, e1, e2⟩ := letter_at h0 h1
    exact ⟨_, _, c, rfl, rfl, lettersS_len, e1, fin _ _ _ g6 e2 rfl⟩
  have hzl : zs.length ≤ 7 := by
    have := p_len pA
    rw [List.length_range] at this
    omega
  have hz1 : 1 ≤ zs.length := by
    have := p_len pA
    rw [List.length_range] at this
    omega
  have hzL : ∀ z ∈ zs, IsLt z := p_all pA
  refine ⟨_, D, zs, rfl, rfl, .inl (.inl (.inl (by rw [hD2, strs_of pz]))), ?_, ?_⟩
  · rw [sum_one hzL]
    show zs.length + zs.length * 0 ≤ _
    omega
  obtain ⟨j1, j2⟩ := jn (s := "") rfl hzL
  have ej : Txt.join (Str.ofString "") zs = Str.join (Str.ofString "") zs := by first | exact PySem.StrLaws.glued_eq_join _ _ | exact PySem.glued_eq_join _ _
  rw [← ej] at j1 j2
  have hp5 : H5 p = some (.lst (wordsS.map V.str)) := go.own (gp.nb hp) (g4.own (gp.nb hp) hp2)
  have gD := gC.trans go
  change (Txt.join (Str.ofString "") zs).length = zs.length at j1
  change AllL (Txt.join (Str.ofString "") zs) at j2
  generalize Txt.join (Str.ofString "") zs = bs at j1 j2 ⊢
  have hbs : bs.length ≤ sizeLine := by rw [j1]; exact sz1000' (by omega)
  refine ⟨_, rfl, _, rfl, _, _, rfl, (by first | exact ⟨rfl, hbs⟩ | exact ⟨hbs, rfl⟩), _, _, rfl, rfl, b, _, rfl, gD.bag, by omega, by omega, fun at_ H6 g6 ha0 ha1 => ?_⟩
  have gE := gD.trans g6
  have hp6 := g6.own (gp.nb hp) hp5
  have fin : ∀ (v : V) (ys : List Str) (H' : Hp), Go (some b) H6 H' → rLst rStr H' v ys → (∀ y ∈ ys, IsNm y) → ys.length ≤ 3 → (0 < many → ys ≠ []) → Q v H' := fun v ys H' g => q v ys H' (gE.trans g)
  refine ⟨_, rfl, rfl, ?_⟩
  by_cases e0 : style = 0
  · refine ⟨true, bT (by rw [e0]), iteT ?_⟩
    have et : turn = ((turn.toNat : Nat) : Int) := by omega
    have em : many = ((many.toNat : Nat) : Int) := by omega
    refine ⟨_, rfl, _, rfl, _, rfl, p, _, rfl, .inl (.inl hp6), fun c1 hc1 => ?_⟩
    rw [et, cutV_lo]
    refine ⟨_, rfl, _, rfl, _, rfl, p, _, rfl, .inl (.inl (same_new hc1 _ _ hp6)), fun c2 hc2 => ?_⟩
    rw [cutV_hi]
    have l25 : (List.map V.str wordsS).length = 25 := by rw [List.length_map]; exact words_nm.1
    refine ⟨c1, c2, _, _, rfl, rfl, same_new hc2 _ _ upd_same, upd_same, ?_, fun c3 hc3 => ?_⟩
    · rw [List.length_drop, List.length_take, l25]
      exact Nat.le_of_lt (big (by omega))
    refine ⟨_, rfl, _, rfl, c3, _, rfl, .inl (.inl upd_same), fun c4 hc4 => ?_⟩
    rw [em, cutV_hi]
    have hc4' := hc4
    refine ⟨c4, _, rfl, upd_same, trivial, fun od => ?_⟩
    have gx := (((go_bag gE.bag).new (x := .lst (List.drop turn.toNat (List.map V.str wordsS))) hc1).new (x := .lst (List.take turn.toNat (List.map V.str wordsS))) hc2).new (x := .lst (List.drop turn.toNat (List.map V.str wordsS) ++ List.take turn.toNat (List.map V.str wordsS))) hc3
    have gy := gx.new (x := .lst (List.take many.toNat (List.drop turn.toNat (List.map V.str wordsS) ++ List.take turn.toNat (List.map V.str wordsS)))) hc4
    refine fin _ ((wordsS.drop turn.toNat ++ wordsS.take turn.toNat).take many.toNat) _ (gy.mut (gx.free hc4) (fun od u z => by rw [upd_same] at z; cases z)) ⟨c4, od, _, rfl, upd_same, ?_⟩ (fun y hy => ?_) ?_ (fun hm => ?_)
    · rw [← List.map_drop, ← List.map_take, ← List.map_append, ← List.map_take]
      exact of_strs _
    · rcases List.mem_append.mp (List.mem_of_mem_take hy) with z | z
      · exact words_nm.2 y (List.mem_of_mem_drop z)
      · exact words_nm.2 y (List.mem_of_mem_take z)
    · rw [List.length_take]; omega
    · intro z
      have := congrArg List.length z
      rw [List.length_take, List.length_append, List.length_drop, List.length_take, words_nm.1] at this
      simp only [List.length_nil] at this
      omega
  refine ⟨false, bF (fun z => e0 (V.int.inj z)), iteF ?_⟩
  refine ⟨_, rfl, rfl, ?_⟩
  have hcm : ∀ k : Nat, k < 3 → CMul 3 (k : Int) := fun k hk => .inl ⟨by omega, by omega⟩
  have fin2 : ∀ (D : Addr) (H8 : Hp) (acc : List V) (ys : List Str), H6 D = none → Go (some b) H6 H8 → H8 D = some (.lst acc) → Paired (rStr H8) acc ys → Paired (fun _ z => IsNm z) (List.range many.toNat) ys → ∃ d u, V.ref D = .ref d ∧ H8 d = some u ∧ Mut (some u) ∧ ∀ od, Q (V.ref D) (upd H8 d (.frz od u)) := by
    intro D H8 acc ys hD g hD2 pz pA
    have hl := p_len pA
    rw [List.length_range] at hl
    refine ⟨D, _, rfl, hD2, trivial, fun od => ?_⟩
    refine fin _ ys _ (g.mut hD (fun od u z => by rw [hD2] at z; cases z)) ⟨D, od, acc, rfl, upd_same, mos (R := rStr) (kp_mut hD2 (fun z => z)) pz⟩ (p_all pA) (by omega) fun hm z => ?_
    rw [z] at hl
    simp only [List.length_nil] at hl
    omega
  by_cases e1 : style = 1
  · refine ⟨true, bT (by rw [e1]), iteT ?_⟩
    refine ⟨_, rfl, _, rfl, by omega, by omega, fun D hD => ?_⟩
    refine lc_r wd_range (some b) rStr (fun _ z => IsNm z) hD (go_bag gE.bag) (fun _ _ => trivial) (by rw [List.length_range]; exact sz1000 (by omega)) (fun i v H7 H8 N S hi go y fin' => ?_) fun H7 acc zs go hD2 pz pA => fin2 D H7 acc zs hD go hD2 pz pA
    obtain ⟨rfl, rfl⟩ := y
    have hi3 : i < 3 := by have := List.mem_range.mp hi; omega
    refine ⟨rfl, yes ⟨_, rfl, _, rfl, _, rfl, _, _, rfl, rfl, hcm i hi3, _, _, rfl, rfl, .inl ⟨_, rfl, _, _, rfl, rfl, by show (0 : Int) < 26; decide, ?_⟩⟩⟩
    obtain ⟨c, q1, q2⟩ := letter_at (i := (turn + 3 * (i : Int)) % 26) (Int.emod_nonneg _ (by decide)) (Int.emod_lt_of_pos _ (by decide))
    exact ⟨_, _, c, rfl, rfl, lettersS_len, q1, fin' _ _ _ (go_bag go.bag) q2.nm rfl⟩
  refine ⟨false, bF (fun z => e1 (V.int.inj z)), iteF ?_⟩
  refine ⟨_, rfl, _, rfl, by omega, by omega, fun D hD => ?_⟩
  refine lc_r wd_range (some b) rStr (fun _ z => IsNm z) hD (go_bag gE.bag) (fun _ _ => trivial) (by rw [List.length_range]; exact sz1000 (by omega)) (fun i v H7 H8 N S hi go y fin' => ?_) fun H7 acc zs go hD2 pz pA => fin2 D H7 acc zs hD go hD2 pz pA
  obtain ⟨rfl, rfl⟩ := y
  have hi3 : i < 3 := by have := List.mem_range.mp hi; omega
  obtain ⟨c, q1, q2⟩ := letter_at (i := (turn + 3 * (i : Int)) % 26) (Int.emod_nonneg _ (by decide)) (Int.emod_lt_of_pos _ (by decide))
  have nm := mid_nm (z := bs) (v := at_) j2 (by omega) ha0 (by omega) q2
  have hl1 := cutS_length bs none (some at_)
  have hl2 := cutS_length bs (some at_) none
  refine ⟨rfl, yes ⟨_, rfl, _, rfl, _, rfl, bs, rfl, hbs, _, rfl, _, rfl, _, rfl, _, _, rfl, rfl, hcm i hi3, _, _, rfl, rfl, .inl ⟨_, rfl, _, _, rfl, rfl, by show (0 : Int) < 26; decide, ?_⟩⟩⟩
  refine ⟨_, _, c, rfl, rfl, lettersS_len, q1, _, _, rfl, rfl, ?_, ?_⟩
  · show _ + 1 ≤ _
    exact Nat.le_of_lt (big (by omega))
  refine ⟨_, rfl, _, rfl, _, rfl, bs, rfl, hbs, _, _, rfl, rfl, ?_, fin' _ _ _ (go_bag go.bag) nm rfl⟩
  rw [len_app]
  show _ + 1 + _ ≤ _
  exact Nat.le_of_lt (big (by omega))
end Fp

/-! ## FpGenD -/
set_option Elab.async false
set_option linter.all false
set_option maxRecDepth 100000
set_option maxHeartbeats 2000000
namespace Fp
open PySem PySem.Spec PyProof.Rows L2
variable {P : Program} {w : World} {K : PySem.W.Frag} {mg : Str → Option Value} {base : Heap}
theorem Go.nb' {m : Option Addr} {o : Addr} {H H1 : Hp} (g : Go m H H1) (h : H o = none) : ∀ b, m = some b → o ≠ b := g.nb h
/-! ### kinds -/
structure KOk (ks : List (Str × Str)) : Prop where
  nd : (keys ks).Nodup
  nm : ∀ x ∈ keys ks, IsNm x
  kk : ∀ x ∈ ks, IsKd x.2
  len : ks.length ≤ 3
theorem KOk.wf {ks : List (Str × Str)} (h : KOk ks) : WfK ks := ⟨h.nd, fun z => (h.nm _ z).ne rfl, by have := h.len; omega⟩
theorem KOk.kd {ks : List (Str × Str)} (h : KOk ks) {x : Str} (hx : x ∈ keys ks) : IsKd (kindIn ks x) := by
  obtain ⟨v, e⟩ := lk_some hx
  have := h.kk _ (lk_mem e)
  show IsKd ((lk ks x).getD e0)
  rw [e]; exact this
theorem KOk.kdk {ks : List (Str × Str)} (h : KOk ks) {x : Str} (hx : x ∈ keys ks) : Fp.kd ks x = kindIn ks x := if_neg fun z => h.wf.ne (by rw [← z]; exact hx)
theorem kd4 {v : Int} (h0 : 0 ≤ v) (h1 : v < 4) : ∃ z, atI [V.str "plain", V.str "plain", V.str "high", V.str "low"] v = some (.str z) ∧ IsKd z := by
  unfold IsKd
  rcases (by omega : v = 0 ∨ v = 1 ∨ v = 2 ∨ v = 3) with rfl | rfl | rfl | rfl
  · exact ⟨_, at0, by decide +kernel⟩
  · exact ⟨_, at1, by decide +kernel⟩
  · exact ⟨_, at2, by decide +kernel⟩
  · exact ⟨_, at3, by decide +kernel⟩
theorem kd_get {H : Hp} {kvs : List (Key × V)} {ks : List (Str × Str)} (dp : DicP rStr H kvs ks) {x : Str} (hx : x ∈ keys ks) : valV kvs (Sum.inr x) = some (.str (kindIn ks x)) := by
  obtain ⟨v, e⟩ := lk_some hx
  obtain ⟨u, e2, e3⟩ := dp.some e
  rw [e2, show u = .str v from e3]
  show _ = some (V.str ((lk ks x).getD e0))
  rw [e]; rfl
/-- slots: 0 _law_bag_here, 1 _law_names_here, 2 _law_style, 3 _law_kinds_here, 4 _law_name -/
abbrev N_l_kinds : List Str := [Str.ofString "_law_bag_here", Str.ofString "_law_names_here", Str.ofString "_law_style", Str.ofString "_law_kinds_here", Str.ofString "_law_name"]
theorem sc_l_kinds : FnScope N_l_kinds [Str.ofString "_law_bag_here", Str.ofString "_law_names_here"] (defScope s_l_kinds) := ⟨rfl, rfl, rfl, by decide +kernel, rfl, by decide +kernel, by decide +kernel⟩
def S_lkinds : Sq := fun vs H Q => ∃ (b : Addr) (nv : V) (ys : List Str), vs = [.ref b, nv] ∧ Bag H b ∧ rLst rStr H nv ys ∧ (∀ y ∈ ys, IsNm y) ∧ ys.length ≤ 3 ∧
  ∀ v ks H', Go (some b) H H' → rDic rStr H' v ks → KOk ks → Q v H'
theorem r_lkinds (T : Tx K mg) (c_l_take : Cal P w K mg base 1 "_law_take" S_take) : FnR P w K mg base CX0 2 (a_l_kinds K) (sp S_lkinds) := by
  refine fr_of (S := S_lkinds) (N := N_l_kinds) (f_l_kinds T) sc_l_kinds (fun vs H Q h => by first | (obtain ⟨rfl, _⟩ := h; rfl) | (obtain ⟨_, rfl, _⟩ := h; rfl) | (obtain ⟨_, _, rfl, _⟩ := h; rfl) | (obtain ⟨_, _, _, rfl, _⟩ := h; rfl) | (obtain ⟨_, _, _, _, rfl, _⟩ := h; rfl) | (obtain ⟨_, _, _, _, _, rfl, _⟩ := h; rfl) | (obtain ⟨_, _, _, _, _, _, rfl, _⟩ := h; rfl) | (obtain ⟨_, _, _, _, _, _, _, rfl, _⟩ := h; rfl) | (obtain ⟨_, _, _, _, _, _, _, _, rfl, _⟩ := h; rfl) | (obtain ⟨_, _, _, _, _, _, _, _, _, rfl, _⟩ := h; rfl) | (obtain ⟨_, _, _, _, _, _, _, _, _, _, rfl, _⟩ := h; rfl) | (obtain ⟨_, _, _, _, _, _, _, _, _, _, _, rfl, _⟩ := h; rfl) | (obtain ⟨_, _, _, _, _, _, _, _, _, _, _, _, rfl, _⟩ := h; rfl) | (obtain ⟨_, _, _, _, _, _, _, _, _, _, _, _, _, rfl, _⟩ := h; rfl) | (obtain ⟨_, _, _, _, _, _, _, _, _, _, _, _, _, _, rfl, _⟩ := h; rfl) | (obtain ⟨_, _, _, _, _, _, _, _, _, _, _, _, _, _, _, rfl, _⟩ := h; rfl) | (obtain ⟨_, _, _, _, _, _, _, _, _, _, _, _, _, _, _, _, rfl, _⟩ := h; rfl)) (fun _ _ _ _ _ _ us hl => match us, hl with | [_, _], _ => rfl) (fun cdv A outer s H vs Q E hr h => ?_)
  obtain ⟨b, nv, ys, rfl, bag, ⟨a, od, xs, rfl, ha, px⟩, hnm, hlen, q⟩ := h
  refine ⟨_, (pss_cons (ps_par (i := 2) (j := 3) rfl sc_l_kinds.nd rfl rfl (by decide) rfl rfl (pa_cons (pcall c_l_take hr (by decide) rfl (pa_cons (pv 0) (pa_cons pe_int pa_nil))) (pa_cons pe_dnewK pa_nil)) (by rfl))
      (pss_cons (ps_for PassesOwn.never rfl (piList K rfl (pv 1)) (pg_name (i := 4) sc_l_kinds.nd rfl (.inl rfl)) (pss_one (ps_dput (hu_of hr) (pv 3) (pv 4) (pe_ifExp (pt_cmpR op_eq (pv 2) pe_int (nomark _)) pe_str (pe_ix (ixL K rfl) (pe_lst (pa_cons pe_str (pa_cons pe_str (pa_cons pe_str (pa_cons pe_str pa_nil))))) (pcall c_l_take hr (by decide) rfl (pa_cons (pv 0) (pa_cons pe_int pa_nil))) (fun _ _ => rfl))) rfl)))
      (pss_one (ps_ret (pe_fz (pv 3)))))), ?_⟩
  refine ⟨_, rfl, b, _, rfl, bag, by decide, by decide, fun style H1 g1 hs0 hs1 f hf => ⟨_, _, rfl, ?_⟩⟩
  have g2 : Go (some b) H (upd H1 f (.dK [])) := g1.new hf
  have hfn : H f = none := g1.free hf
  have hA : ∀ {H' : Hp}, Go (some b) H H' → H' a = some (.frz od (.lst xs)) := fun g => g.keep _ _ trivial ha
  refine ⟨_, rfl, a, rfl, ⟨xs, .inl (.inr ⟨_, hA g2⟩)⟩, ?_⟩
  refine for_d (wd_list px) (fun (d : List Str) (σ : L2.St) (H' : Hp) => ∃ y4, σ = [some (V.ref b), some (V.ref a), some (V.int style), some (V.ref f), y4] ∧ Go (some b) H H' ∧ ∃ (kvs : List (Key × V)) (ks : List (Str × Str)), H' f = some (.dK kvs) ∧ DicP rStr H' kvs ks ∧ (keys ks).Nodup ∧ (∀ x ∈ ks, IsNm x.1 ∧ IsKd x.2) ∧ ks.length ≤ d.length) ?_ ?_ ?_ ?_
  · exact ⟨none, rfl, g2, [], [], upd_same, .nil, List.nodup_nil, fun x hx => absurd hx (List.not_mem_nil), Nat.le_refl _⟩
  · rintro d σ H' ⟨_, _, g, _⟩
    exact .inl (.inr ⟨_, hA g⟩)
  · rintro d x rr z σ H2 H' el ⟨y4, rfl, g, kvs, ks, hk, dp, nd, al, hl⟩ ⟨rfl, rfl⟩
    have hx : IsNm x := hnm x (by rw [el]; simp)
    have hd : d.length < 3 := by
      have := congrArg List.length el
      rw [List.length_append, List.length_cons] at this
      omega
    have fin : ∀ (z : Str) (H3 : Hp), Go (some b) H' H3 → IsKd z → ∃ y4 : Option V, [some (V.ref b), some (V.ref a), some (V.int style), some (V.ref f), some (V.str x)] = [some (V.ref b), some (V.ref a), some (V.int style), some (V.ref f), y4] ∧ Go (some b) H (upd H3 f (.dK (putK kvs (Sum.inr x) (.str z)))) ∧ ∃ (kvs2 : List (Key × V)) (ks2 : List (Str × Str)), (upd H3 f (.dK (putK kvs (Sum.inr x) (.str z)))) f = some (.dK kvs2) ∧ DicP rStr (upd H3 f (.dK (putK kvs (Sum.inr x) (.str z)))) kvs2 ks2 ∧ (keys ks2).Nodup ∧ (∀ x ∈ ks2, IsNm x.1 ∧ IsKd x.2) ∧ ks2.length ≤ (d ++ [x]).length := by
      intro z H3 g3 hz
      have hk3 : H3 f = some (.dK kvs) := g3.own (g.nb hfn) hk
      refine ⟨_, rfl, (g.trans g3).mut hfn (fun od u q => by rw [hk3] at q; cases q), _, put ks x z, upd_same, DicP.put (dp.mono (g3.keep.trans (kp_mut hk3 (fun z => z)))) rfl, nd_put nd, fun y hy => ?_, ?_⟩
      · rcases put_mem hy with rfl | h
        · exact ⟨hx, hz⟩
        · exact al y h
      · have := put_len (l := ks) (k := x) (v := z)
        rw [List.length_append]
        simp only [List.length_singleton]
        omega
    have hkl : kvs.length < sizeLine := by rw [dp.len]; exact big (by omega)
    refine ⟨_, rfl, rfl, ?_⟩
    by_cases e0 : style = 0
    · refine ⟨true, bT (by rw [e0]), iteT ?_⟩
      refine ⟨_, rfl, _, rfl, f, _, rfl, .inl ⟨kvs, Sum.inr x, hk, rfl, hkl, rfl⟩, fin "plain" H' (go_bag g.bag) ?_⟩
      unfold IsKd
      decide +kernel
    · refine ⟨false, bF (fun z => e0 (V.int.inj z)), iteF ?_⟩
      refine ⟨ln4, fun l hl => ?_⟩
      have gl := (go_bag g.bag).new (x := .lst [V.str "plain", V.str "plain", V.str "high", V.str "low"]) hl
      refine ⟨_, rfl, b, _, rfl, gl.bag, by decide, by decide, fun v H3 g3 h0 h1 => ?_⟩
      obtain ⟨z, ez, hz⟩ := kd4 h0 h1
      have g4 := gl.trans g3
      refine ⟨_, _, _, _, rfl, rfl, .inl (.inl (g3.own (gl.nb' hl) upd_same)), ez, ?_⟩
      exact ⟨_, rfl, _, rfl, f, _, rfl, .inl ⟨kvs, Sum.inr x, g4.own (g.nb hfn) hk, rfl, hkl, rfl⟩, fin z H3 g4 hz⟩
  · rintro σ H2 ⟨y4, rfl, g, kvs, ks, hk, dp, nd, al, hl⟩
    refine ⟨_, rfl, f, _, rfl, hk, trivial, fun od2 => ?_⟩
    refine q _ ks _ (g.mut hfn (fun od u q => by rw [hk] at q; cases q)) ⟨f, od2, _, rfl, upd_same, dp.mono (kp_mut hk (fun z => z))⟩ ⟨nd, fun x hx => ?_, fun x hx => (al x hx).2, by omega⟩
    obtain ⟨p, hp, rfl⟩ := List.mem_map.mp hx
    exact (al p hp).1
/-- slots: 0 _law_bag_here, 1 _law_kinds_here*, 2 _law_kind*, 3 _law_fit, 4 _law_name -/
abbrev N_l_part : List Str := [Str.ofString "_law_bag_here", Str.ofString "_law_kinds_here", Str.ofString "_law_kind", Str.ofString "_law_fit", Str.ofString "_law_name"]
theorem sc_l_part : FnScope N_l_part [Str.ofString "_law_bag_here", Str.ofString "_law_kinds_here", Str.ofString "_law_kind"] (defScope s_l_part) := ⟨rfl, rfl, rfl, by decide +kernel, rfl, by decide +kernel, by decide +kernel⟩
def PartOk (ks : List (Str × Str)) (k : Str) (p : Part) : Prop := (p.1 = e0 ∨ p.1 ∈ keys ks) ∧ Fit (kd ks p.1) k
def S_lpart : Sq := fun vs H Q => ∃ (b : Addr) (kv : V) (k : Str) (ks : List (Str × Str)), vs = [.ref b, kv, .str k] ∧ Bag H b ∧ rDic rStr H kv ks ∧ KOk ks ∧
  ∀ v p H', Go (some b) H H' → rPart H' v p → PartOk ks k p → Q v H'
theorem r_lpart (T : Tx K mg) (c_l_take : Cal P w K mg base 1 "_law_take" S_take) (c_l_number : Cal P w K mg base 2 "_law_number" S_number) : FnR P w K mg base CX0 3 (a_l_part K) (sp S_lpart) := by
  refine fr_of (S := S_lpart) (N := N_l_part) (f_l_part T) sc_l_part (fun vs H Q h => by first | (obtain ⟨rfl, _⟩ := h; rfl) | (obtain ⟨_, rfl, _⟩ := h; rfl) | (obtain ⟨_, _, rfl, _⟩ := h; rfl) | (obtain ⟨_, _, _, rfl, _⟩ := h; rfl) | (obtain ⟨_, _, _, _, rfl, _⟩ := h; rfl) | (obtain ⟨_, _, _, _, _, rfl, _⟩ := h; rfl) | (obtain ⟨_, _, _, _, _, _, rfl, _⟩ := h; rfl) | (obtain ⟨_, _, _, _, _, _, _, rfl, _⟩ := h; rfl) | (obtain ⟨_, _, _, _, _, _, _, _, rfl, _⟩ := h; rfl) | (obtain ⟨_, _, _, _, _, _, _, _, _, rfl, _⟩ := h; rfl) | (obtain ⟨_, _, _, _, _, _, _, _, _, _, rfl, _⟩ := h; rfl) | (obtain ⟨_, _, _, _, _, _, _, _, _, _, _, rfl, _⟩ := h; rfl) | (obtain ⟨_, _, _, _, _, _, _, _, _, _, _, _, rfl, _⟩ := h; rfl) | (obtain ⟨_, _, _, _, _, _, _, _, _, _, _, _, _, rfl, _⟩ := h; rfl) | (obtain ⟨_, _, _, _, _, _, _, _, _, _, _, _, _, _, rfl, _⟩ := h; rfl) | (obtain ⟨_, _, _, _, _, _, _, _, _, _, _, _, _, _, _, rfl, _⟩ := h; rfl) | (obtain ⟨_, _, _, _, _, _, _, _, _, _, _, _, _, _, _, _, rfl, _⟩ := h; rfl)) (fun _ _ _ _ _ _ us hl => match us, hl with | [_, _, _], _ => rfl) (fun cdv A outer s H vs Q E hr h => ?_)
  obtain ⟨b, kv, k, ks, rfl, bag, ⟨a, od, kvs, rfl, ha, dp⟩, ok, q⟩ := h
  refine ⟨_, (pss_cons (ps_set (i := 3) sc_l_part.nd rfl (.inl rfl) (pe_op op_cat (pe_lst (pa_cons pe_str pa_nil)) (pe_lc (own := [("_law_name", 4)]) (g := gName 4) rfl sc_l_part.nd (piList K rfl (pe_callB (call_sortedD rfl) rfl (n_sorted T) (by decide +kernel) (pa_cons (pv 1) pa_nil))) (blkOk_by (own := [("_law_name", 4)]) (N := N_l_part) (sc := defScope s_l_part) (by decide +kernel)) (fun _ _ _ _ _ => (pg_name (i := 4) sc_l_part.nd rfl (.inl rfl))) (fun _ _ _ _ _ => (pts_one (pt_cmpR (inSq K rfl) (pe_dget (hu_of hr) (pv 1) (pv 4) (fun _ _ => rfl)) (pe_tup (pa_cons pe_str (pa_cons (pv 2) pa_nil))) (by rfl)))) (fun _ _ _ _ _ => (pv 4)))))
      (pss_one (ps_ret (pe_tup (pa_cons (pe_ix (ixL K rfl) (pv 3) (pcall c_l_take hr (by decide) rfl (pa_cons (pv 0) (pa_cons (pe_callB (cLen K rfl) rfl (n_len T) (by decide +kernel) (pa_cons (pv 3) pa_nil)) pa_nil))) (fun _ _ => rfl)) (pa_cons (pcall c_l_number hr (by decide) rfl (pa_cons (pv 0) pa_nil)) pa_nil)))))), ?_⟩
  refine ⟨ln1, fun l hl => ?_⟩
  have s1 : Same H (upd H l (.lst [V.str e0])) := same_new hl
  refine ⟨_, rfl, a, kvs, keys ks, rfl, .inr ⟨od, s1 _ _ ha⟩, dp.keys, by have := ok.len; unfold keys; rw [List.length_map]; omega, fun ys p pm so hp => ?_⟩
  have s2 := s1.trans (same_new (o := .lst (ys.map V.str)) hp)
  have hin : ∀ z ∈ ys, z ∈ keys ks := fun z hz => pm.mem_iff.mp hz
  have hyl : ys.length ≤ 3 := by
    have h1 := pm.length_eq
    have := ok.len
    unfold keys at h1
    rw [List.length_map] at h1
    omega
  refine ⟨p, rfl, ⟨_, .inl (.inl upd_same)⟩, fun D hD => ?_⟩
  refine lc_p (wd_list (of_strs (H := H) ys)) none rStr (fun z => decide (kindIn ks z ∈ (["plain", k] : List Str))) (fun z => z) hD (go_refl _) (fun H' g => .inl (.inl (g _ _ upd_same))) (sz1000 (by omega)) (fun d z r v H1 H' el go y fin fin2 => ?_) fun H3 acc go hD2 pa => ?_
  · obtain ⟨rfl, rfl⟩ := y
    have hz : z ∈ keys ks := hin z (by rw [el]; simp)
    refine ⟨rfl, _, rfl, _, rfl, a, _, rfl, dgR (.inr ⟨od, go _ _ (s2 _ _ ha)⟩) (kd_get dp hz), _, rfl, ln2, fun t ht => ?_⟩
    have st : Same H' (upd H' t (.tup [V.str "plain", V.str k])) := same_new ht
    refine ⟨t, _, rfl, .inr (.inl (.inl upd_same)), rfl, rfl, decide (kindIn ks z ∈ (["plain", k] : List Str)), ?_, ?_⟩
    · rw [← inV_strs]; rfl
    · by_cases e : kindIn ks z ∈ (["plain", k] : List Str)
      · rw [decide_eq_true e]
        exact iteT ⟨_, rfl, fin _ _ (decide_eq_true e) st rfl⟩
      · rw [decide_eq_false e]
        exact iteF (fin2 _ (decide_eq_false e) st)
  rw [List.map_id'' (fun _ => rfl)] at pa
  generalize hfs : List.filter (fun z => decide (kindIn ks z ∈ [Str.ofString "plain", k])) ys = fs at pa
  have hfl : fs.length ≤ 3 := by rw [← hfs]; exact Nat.le_trans (List.length_filter_le _ _) hyl
  have hfm : ∀ z ∈ fs, z ∈ keys ks ∧ kindIn ks z ∈ (["plain", k] : List Str) := fun z hz => by
    rw [← hfs] at hz
    obtain ⟨h1, h2⟩ := List.mem_filter.mp hz
    exact ⟨hin z h1, of_decide_eq_true h2⟩
  have sB : Same H H3 := s2.trans go
  have hl3 : H3 l = some (.lst [V.str e0]) := go _ _ (same_new hp _ _ upd_same)
  refine ⟨l, D, _, _, rfl, rfl, hl3, hD2, ?_, fun m hm => ?_⟩
  · rw [strs_of pa, List.length_map]
    show 1 + _ ≤ _
    exact Nat.le_of_lt (big (by omega))
  have em : [V.str e0] ++ acc = (e0 :: fs).map V.str := by rw [strs_of pa]; rfl
  rw [em]
  have sC : Same H (upd H3 m (.lst ((e0 :: fs).map V.str))) := sB.trans (same_new hm)
  have gC : Go (some b) H (upd H3 m (.lst ((e0 :: fs).map V.str))) := (go_bag bag).same sC
  have hmb : ∀ b', some b = some b' → m ≠ b' := ((go_bag bag).same sB).nb' (sB.free hm) |> fun n => n
  refine ⟨_, rfl, _, rfl, _, rfl, _, _, rfl, .inl ⟨_, .inl (.inl upd_same), rfl⟩, b, _, rfl, gC.bag, ?_, ?_, fun v H5 g5 h0 h1 => ?_⟩
  · rw [List.length_map, List.length_cons]; omega
  · rw [List.length_map, List.length_cons]; omega
  rw [List.length_map] at h1
  have hv : v.toNat < (e0 :: fs).length := by omega
  have hat : atI ((e0 :: fs).map V.str) v = some (.str (e0 :: fs)[v.toNat]) := by
    have := atI_nat (j := v.toNat) (xs := (e0 :: fs).map V.str) (by rw [List.getElem?_map, List.getElem?_eq_getElem hv]; rfl)
    rw [Int.toNat_of_nonneg h0] at this
    exact this
  refine ⟨_, _, _, _, rfl, rfl, .inl (.inl (g5.own hmb upd_same)), hat, ?_⟩
  refine ⟨_, rfl, b, rfl, g5.bag, fun n H6 g6 => ⟨ln2, fun t ht => ?_⟩⟩
  refine q _ ((e0 :: fs)[v.toNat], n) _ (((gC.trans g5).trans g6).new ht) ⟨t, _, _, rfl, upd_same, rfl, rfl⟩ ?_
  rcases List.mem_cons.mp (List.getElem_mem hv) with e | e
  · exact ⟨.inl e, .inl (by show kd ks _ = _; rw [e]; exact if_pos rfl)⟩
  · obtain ⟨h2, h3⟩ := hfm _ e
    refine ⟨.inr h2, ?_⟩
    show Fit (kd ks (e0 :: fs)[v.toNat]) k
    rw [ok.kdk h2]
    rcases List.mem_cons.mp h3 with z | z
    · exact .inl z
    · exact .inr (List.mem_singleton.mp z)
end Fp

/-! ## FpGenE -/
set_option Elab.async false
set_option linter.all false
set_option maxRecDepth 100000
set_option maxHeartbeats 2000000
namespace Fp
open PySem PySem.Spec PyProof.Rows L2
variable {P : Program} {w : World} {K : PySem.W.Frag} {mg : Str → Option Value} {base : Heap}
/-! ### lists of names as data -/
theorem letters_lt : ∀ c ∈ letters, c < 0x110000 := by unfold letters; decide +kernel
theorem nm_ok {z : Str} (h : IsNm z) : PyData.canLay0 (.str z) = true := by
  show z.cps.all (· < 0x110000) = true
  rw [← Array.all_toList, List.all_eq_true]
  intro c hc
  exact decide_eq_true (letters_lt c (h.2.2 c hc))
theorem lay_strs : ∀ {zs : List Str}, (∀ z ∈ zs, IsNm z) → PyData.canLayAll0 (zs.map PyData.str) = true
  | [], _ => by simp only [List.map_nil, PyData.canLayAll0]
  | z :: r, h => by
    simp only [List.map_cons, PyData.canLayAll0]
    rw [nm_ok (h z (by simp)), lay_strs fun x hx => h x (List.mem_cons_of_mem _ hx)]
    rfl
theorem dep_strs : ∀ {zs : List Str}, PyData.depthAll (zs.map PyData.str) = 0
  | [] => by simp only [List.map_nil, PyData.depthAll]
  | z :: r => by
    simp only [List.map_cons, PyData.depthAll, PyData.depth]
    rw [dep_strs]
    rfl
theorem shp_strs {zs : List Str} (h : ∀ z ∈ zs, IsNm z) : SeqAt.shaped (.list (zs.map PyData.str)) = true := by
  unfold SeqAt.shaped
  simp only [PyData.canLay0, PyData.depth, lay_strs h, dep_strs]
  decide
theorem dp_strs {H : Hp} : ∀ {zs : List Str}, DpAll K H (zs.map V.str) (zs.map PyData.str)
  | [] => .nil
  | z :: r => .cons (.str z) dp_strs
/-- names == [] -/
theorem eq_nil {H : Hp} {p l : Addr} {zs : List Str} {Q : VK} (hp : SqL K H p (zs.map V.str)) (hn : ∀ z ∈ zs, IsNm z) (hl : SqL K H l []) (q : Q (.bl (decide (zs = []))) H) : rEqD K (.ref p) (.ref l) H Q := by
  refine ⟨_, _, .lst hp dp_strs, .lst hl .nil, shp_strs hn, by decide, ?_⟩
  have : PyData.eqv (.list (zs.map PyData.str)) (.list []) = decide (zs = []) := by
    cases zs with
    | nil => simp [PyData.eqv, PyData.eqvAll]
    | cons z r => simp [PyData.eqv, PyData.eqvAll]
  rw [this]
  exact q
/-! ### statements -/
structure GoodSm (ks : List (Str × Str)) (s : Sm) : Prop where
  syn : SynSm s
  sin : SmIn (keys ks) s
  kok : KindOk ks s
  few : (setsOf s).length + (partsOf s).length < 64
theorem PartOk.src {ks : List (Str × Str)} (ok : KOk ks) {k : Str} {p : Part} (h : PartOk ks k p) : Src p.1 := h.1.elim .inl fun z => .inr (ok.nm _ z)
theorem p_fst {ks : List (Str × Str)} : ∀ {cs : List Str} {zs : List (Str × Part)}, Paired (fun z (t : Str × Part) => t.1 = z ∧ PartOk ks (kindIn ks z) t.2) cs zs → zs.map (·.1) = cs ∧ ∀ t ∈ zs, t.1 ∈ cs ∧ PartOk ks (kindIn ks t.1) t.2
  | _, _, .nil => ⟨rfl, fun t ht => absurd ht (List.not_mem_nil)⟩
  | _, _, .cons h t => by
    obtain ⟨h1, h2⟩ := p_fst t
    refine ⟨by rw [List.map_cons, h1, h.1], fun u hu => ?_⟩
    rcases List.mem_cons.mp hu with e | hu
    · rw [e]; exact ⟨by rw [h.1]; exact List.mem_cons_self, by rw [h.1]; exact h.2⟩
    · exact ⟨List.mem_cons_of_mem _ (h2 u hu).1, (h2 u hu).2⟩
theorem kd_hi {z : Str} (h : IsKd z) (n : z ≠ "plain") : ∃ hi, z = hiK hi ∧ (z = "high" ↔ hi = true) := by
  rcases List.mem_cons.mp h with e | h
  · exact absurd e n
  rcases List.mem_cons.mp h with e | h
  · exact ⟨true, e, fun _ => rfl, fun _ => e⟩
  · have e := List.mem_singleton.mp h
    exact ⟨false, e, fun z2 => absurd (e.symm.trans z2) (by decide +kernel), fun z => nomatch z⟩
theorem at_strs {ys : List Str} {v : Int} (h0 : 0 ≤ v) (h1 : v < ys.length) : ∃ x ∈ ys, atI (ys.map V.str) v = some (.str x) := by
  have hv : v.toNat < ys.length := by omega
  refine ⟨ys[v.toNat], List.getElem_mem hv, ?_⟩
  have := atI_nat (j := v.toNat) (xs := ys.map V.str) (by rw [List.getElem?_map, List.getElem?_eq_getElem hv]; rfl)
  rw [Int.toNat_of_nonneg h0] at this
  exact this
/-- slots: 0 _law_bag_here*, 1 _law_kinds_here*, 2 _law_names_here, 3 _law_x*, 4 _law_word, 5 _law_parts, 6 _law_chosen, 7 _law_k, 8 _law_name -/
abbrev N_l_statement : List Str := [Str.ofString "_law_bag_here", Str.ofString "_law_kinds_here", Str.ofString "_law_names_here", Str.ofString "_law_x", Str.ofString "_law_word", Str.ofString "_law_parts", Str.ofString "_law_chosen", Str.ofString "_law_k", Str.ofString "_law_name"]
theorem sc_l_statement : FnScope N_l_statement [Str.ofString "_law_bag_here", Str.ofString "_law_kinds_here"] (defScope s_l_statement) := ⟨rfl, rfl, rfl, by decide +kernel, rfl, by decide +kernel, by decide +kernel⟩
def S_lstm : Sq := fun vs H Q => ∃ (b : Addr) (kv : V) (ks : List (Str × Str)), vs = [.ref b, kv] ∧ Bag H b ∧ rDic rStr H kv ks ∧ KOk ks ∧
  ∀ v s H', Go (some b) H H' → rSm H' v s → GoodSm ks s → isCall s = false → Q v H'
theorem r_lstm (T : Tx K mg) (c_l_take : Cal P w K mg base 1 "_law_take" S_take) (c_l_mixed : Cal P w K mg base 2 "_law_mixed" S_mixed) (c_l_part : Cal P w K mg base 3 "_law_part" S_lpart) : FnR P w K mg base CX0 4 (a_l_statement K) (sp S_lstm) := by
  refine fr_of (S := S_lstm) (N := N_l_statement) (f_l_statement T) sc_l_statement (fun vs H Q h => by first | (obtain ⟨rfl, _⟩ := h; rfl) | (obtain ⟨_, rfl, _⟩ := h; rfl) | (obtain ⟨_, _, rfl, _⟩ := h; rfl) | (obtain ⟨_, _, _, rfl, _⟩ := h; rfl) | (obtain ⟨_, _, _, _, rfl, _⟩ := h; rfl) | (obtain ⟨_, _, _, _, _, rfl, _⟩ := h; rfl) | (obtain ⟨_, _, _, _, _, _, rfl, _⟩ := h; rfl) | (obtain ⟨_, _, _, _, _, _, _, rfl, _⟩ := h; rfl) | (obtain ⟨_, _, _, _, _, _, _, _, rfl, _⟩ := h; rfl) | (obtain ⟨_, _, _, _, _, _, _, _, _, rfl, _⟩ := h; rfl) | (obtain ⟨_, _, _, _, _, _, _, _, _, _, rfl, _⟩ := h; rfl) | (obtain ⟨_, _, _, _, _, _, _, _, _, _, _, rfl, _⟩ := h; rfl) | (obtain ⟨_, _, _, _, _, _, _, _, _, _, _, _, rfl, _⟩ := h; rfl) | (obtain ⟨_, _, _, _, _, _, _, _, _, _, _, _, _, rfl, _⟩ := h; rfl) | (obtain ⟨_, _, _, _, _, _, _, _, _, _, _, _, _, _, rfl, _⟩ := h; rfl) | (obtain ⟨_, _, _, _, _, _, _, _, _, _, _, _, _, _, _, rfl, _⟩ := h; rfl) | (obtain ⟨_, _, _, _, _, _, _, _, _, _, _, _, _, _, _, _, rfl, _⟩ := h; rfl)) (fun _ _ _ _ _ _ us hl => match us, hl with | [_, _], _ => rfl) (fun cdv A outer s H vs Q E hr h => ?_)
  obtain ⟨b, kv, ks, rfl, bag, ⟨a, od, kvs, rfl, ha, dp⟩, ok, q⟩ := h
  refine ⟨_, (pss_cons (ps_set (i := 2) sc_l_statement.nd rfl (.inl rfl) (pe_callB (call_sortedD rfl) rfl (n_sorted T) (by decide +kernel) (pa_cons (pv 1) pa_nil)))
      (pss_cons (ps_if (PW.pt (pw_or (pt_cmpR (eqD K rfl hr.units) (pv 2) (pe_lst pa_nil) (nomark _)) (pw_or1 (pt_cmpR op_eq (pcall c_l_take hr (by decide) rfl (pa_cons (pv 0) (pa_cons pe_int pa_nil))) pe_int (nomark _))))) (pss_one (ps_ret (pe_tup (pa_cons pe_str pa_nil)))) pss_nil)
      (pss_cons (ps_set (i := 3) sc_l_statement.nd rfl (.inr rfl) (pe_ix (ixL K rfl) (pv 2) (pcall c_l_take hr (by decide) rfl (pa_cons (pv 0) (pa_cons (pe_callB (cLen K rfl) rfl (n_len T) (by decide +kernel) (pa_cons (pv 2) pa_nil)) pa_nil))) (fun _ _ => rfl)))
      (pss_cons (ps_if (PW.pt (pw_and (pt_cmpR op_ne (pe_dget (hu_of hr) (pv 1) (pv 3) (fun _ _ => rfl)) pe_str (nomark _)) (pw_and1 (pt_cmpR op_gt (pcall c_l_take hr (by decide) rfl (pa_cons (pv 0) (pa_cons pe_int pa_nil))) pe_int (nomark _))))) (pss_cons (ps_set (i := 4) sc_l_statement.nd rfl (.inl rfl) (pe_ifExp (pt_cmpR op_eq (pe_dget (hu_of hr) (pv 1) (pv 3) (fun _ _ => rfl)) pe_str (nomark _)) pe_str pe_str))
        (pss_cons (ps_setLc (i := 5) (own := [("_law_k", 7)]) (g := gName 7) rfl sc_l_statement.nd rfl rfl (sw_true rfl rfl rfl (by decide +kernel)) (pi_range1 rfl (n_range T) (pa_cons (pe_op op_add pe_int (pcall c_l_take hr (by decide) rfl (pa_cons (pv 0) (pa_cons pe_int pa_nil)))) pa_nil)) (blkOk_by (own := [("_law_k", 7)]) (N := N_l_statement) (sc := defScope s_l_statement) (by decide +kernel)) (fun _ _ _ _ _ => (pg_name (i := 7) sc_l_statement.nd rfl (.inl rfl))) (fun _ _ _ _ _ => pts_nil) (fun _ _ _ _ _ => (pcall c_l_part hr (by decide) rfl (pa_cons (pv 0) (pa_cons (pv 1) (pa_cons (pe_dget (hu_of hr) (pv 1) (pv 3) (fun _ _ => rfl)) pa_nil))))))
        (pss_one (ps_ret (pe_tup (pa_cons (pv 4) (pa_cons (pv 3) (pa_cons (pe_callTy (cTup K rfl) rfl (n_tuple T) (by decide +kernel) (pa_cons (pv 5) pa_nil)) pa_nil)))))))) pss_nil)
      (pss_cons (ps_set (i := 6) sc_l_statement.nd rfl (.inl rfl) (pe_lst (pa_cons (pv 3) pa_nil)))
      (pss_cons (ps_if (pt_cmpR op_eq (pcall c_l_take hr (by decide) rfl (pa_cons (pv 0) (pa_cons pe_int pa_nil))) pe_int (nomark _)) (pss_one (ps_set (i := 6) sc_l_statement.nd rfl (.inl rfl) (pe_slice (slL K rfl) (pcall c_l_mixed hr (by decide) rfl (pa_cons (pv 0) (pa_cons (pv 2) pa_nil))) po_none (po_some (pcall c_l_take hr (by decide) rfl (pa_cons (pv 0) (pa_cons pe_int pa_nil))))))) pss_nil)
      (pss_one (ps_ret (pe_tup (pa_cons pe_str (pa_cons (pe_callTy (cTup K rfl) rfl (n_tuple T) (by decide +kernel) (pa_cons (pe_lc (own := [("_law_name", 8)]) (g := gName 8) rfl sc_l_statement.nd (piList K rfl (pv 6)) (blkOk_by (own := [("_law_name", 8)]) (N := N_l_statement) (sc := defScope s_l_statement) (by decide +kernel)) (fun _ _ _ _ _ => (pg_name (i := 8) sc_l_statement.nd rfl (.inl rfl))) (fun _ _ _ _ _ => pts_nil) (fun _ _ _ _ _ => (pe_op (catA K rfl) (pe_tup (pa_cons (pv 8) pa_nil)) (pcall c_l_part hr (by decide) rfl (pa_cons (pv 0) (pa_cons (pv 1) (pa_cons (pe_dget (hu_of hr) (pv 1) (pv 8) (fun _ _ => rfl)) pa_nil))))))) pa_nil)) pa_nil))))))))))), ?_⟩
  refine ⟨_, rfl, a, kvs, keys ks, rfl, .inr ⟨od, ha⟩, dp.keys, by have := ok.len; unfold keys; rw [List.length_map]; omega, fun ys p pm so hp => ?_⟩
  have g1 : Go (some b) H (upd H p (.lst (ys.map V.str))) := (go_bag bag).new hp
  have hp1 : (upd H p (.lst (ys.map V.str))) p = some (.lst (ys.map V.str)) := upd_same
  have hpb := g1.nb' hp
  have hin : ∀ z ∈ ys, z ∈ keys ks := fun z hz => pm.mem_iff.mp hz
  have hyl : ys.length ≤ 3 := by
    have h1 := pm.length_eq
    have := ok.len
    unfold keys at h1
    rw [List.length_map] at h1
    omega
  have hnd : ys.Nodup := pm.nodup_iff.mpr ok.nd
  generalize upd H p (.lst (ys.map V.str)) = H1 at g1 hp1 ⊢
  refine ⟨_, rfl, Nat.zero_le _, fun l hl => eq_nil (zs := ys) (.inl (.inl (same_new hl _ _ hp1))) (fun z hz => ok.nm z (hin z hz)) (.inl (.inl upd_same)) ?_⟩
  have g2 := g1.new (x := .lst []) hl
  have hp2 := same_new (o := .lst []) hl _ _ hp1
  generalize upd H1 l (.lst []) = H2 at g2 hp2 ⊢
  have skip : ∀ H3 t, Go (some b) H H3 → H3 t = none → Q (.ref t) (upd H3 t (.tup [.str "skip"])) := fun H3 t g ht => q _ .skip _ (g.new ht) ⟨t, rfl, upd_same⟩ ⟨trivial, trivial, trivial, by decide⟩ rfl
  by_cases en : ys = []
  · exact ⟨true, bT en, iteT (iteT ⟨ln1, fun t ht => skip _ t g2 ht⟩)⟩
  refine ⟨false, bF en, iteF ?_⟩
  refine ⟨_, rfl, b, _, rfl, g2.bag, by decide, by decide, fun v8 H3 g3 _ _ => ⟨rfl, ?_⟩⟩
  by_cases e8 : v8 = 0
  · exact ⟨true, bT (by rw [e8]), iteT ⟨ln1, fun t ht => skip _ t (g2.trans g3) ht⟩⟩
  refine ⟨false, bF (fun z => e8 (V.int.inj z)), iteF ?_⟩
  have gA := g2.trans g3
  have hp3 := g3.own hpb hp2
  have hy1 : 1 ≤ ys.length := by
    cases ys with
    | nil => exact absurd rfl en
    | cons _ _ => simp
  refine ⟨_, rfl, _, rfl, _, rfl, _, _, rfl, .inl ⟨_, .inl (.inl hp3), rfl⟩, b, _, rfl, gA.bag, ?_, ?_, fun v H4 g4 h0 h1 => ?_⟩
  · rw [List.length_map]; omega
  · rw [List.length_map]; omega
  rw [List.length_map] at h1
  obtain ⟨x, hx, hat⟩ := at_strs h0 h1
  have gB := gA.trans g4
  have hp4 := g4.own hpb hp3
  refine ⟨_, _, _, _, rfl, rfl, .inl (.inl hp4), hat, ?_⟩
  have hx := hin x hx
  have hA : ∀ {H' : Hp}, Go (some b) H H' → H' a = some (.frz od (.dK kvs)) := fun g => g.keep _ _ trivial ha
  have dgx : ∀ {H' : Hp} {z : Str}, Go (some b) H H' → z ∈ keys ks → DGet H' a (.str z) (some (.str (kindIn ks z))) := fun g hz => dgR (.inr ⟨od, hA g⟩) (kd_get dp hz)
  have hD : ∀ {H' : Hp}, Go (some b) H H' → rDic rStr H' (.ref a) ks := fun g => ⟨a, od, kvs, rfl, hA g, dp.mono g.keep⟩
  dsimp only
  refine seq_mk (fun σ' H5 => σ' = [some (V.ref b), some (V.ref a), some (V.ref p), some (V.str x), none, none, none, none, none] ∧ Go (some b) H H5 ∧ H5 p = some (.lst (ys.map V.str))) ?_ fun rest => ?_
  · rintro σ' H5 ⟨rfl, g5, hp5⟩
    refine ⟨_, rfl, ln1, fun c hc => ?_⟩
    have g6 := g5.new (x := .lst [V.str x]) hc
    have hp6 := same_new (o := .lst [V.str x]) hc _ _ hp5
    have hcb := g5.nb' (g5.free hc) |> fun _ => (go_bag g5.bag).nb' hc
    dsimp only
    refine seq_mk (fun σ' H6 => ∃ (c : Addr) (cs : List Str), σ' = [some (V.ref b), some (V.ref a), some (V.ref p), some (V.str x), none, none, some (V.ref c), none, none] ∧ Go (some b) H H6 ∧ Ls H6 c (cs.map V.str) ∧ c ≠ b ∧ cs.Nodup ∧ cs.length ≤ 3 ∧ ∀ z ∈ cs, z ∈ keys ks) ?_ fun rest2 => ?_
    · rintro σ' H7 ⟨c, cs, rfl, g7, hc7, hcb7, cnd, cl, cin⟩
      refine ⟨_, rfl, c, rfl, ⟨_, hc7.seq⟩, fun D hDn => ?_⟩
      refine lc_r (wd_list (of_strs (H := H) cs)) (some b) (rTri rStr rStr rInt) (fun z t => t.1 = z ∧ PartOk ks (kindIn ks z) t.2) hDn (go_bag g7.bag) (fun H' g => (hc7.go g fun b' e => by cases e; exact hcb7).seq) (sz1000 (by omega)) (fun z v H8 H9 N S hz go y fin => ?_) fun H8 acc zs go hD2 pz pA => ?_
      · obtain ⟨rfl, rfl⟩ := y
        have hz := cin z hz
        have g8 := g7.trans go
        refine ⟨rfl, yes ⟨_, rfl, ln1, fun t ht => ?_⟩⟩
        have g9 := g8.new (x := .tup [V.str z]) ht
        have et : (upd H9 t (.tup [V.str z])) t = some (.tup [V.str z]) := upd_same
        have go1 := (go_bag g8.bag).new (x := .tup [V.str z]) ht
        generalize upd H9 t (.tup [V.str z]) = H10 at g9 et go1 ⊢
        refine ⟨_, rfl, _, rfl, _, rfl, _, rfl, a, _, rfl, dgx g9 hz, b, _, _, ks, rfl, g9.bag, hD g9, ok, fun v p' H11 g11 ⟨t2, x1, y1, e, ht2, hx1, hy1⟩ pok => ?_⟩
        subst e
        obtain rfl : x1 = _ := hx1
        obtain rfl : y1 = _ := hy1
        refine ⟨t, t2, _, _, rfl, rfl, .inl (.inl (g11.keep _ _ trivial et)), .inl (.inl ht2), by show 3 ≤ _; decide, (fun z => nomatch z), (fun _ z => nomatch z), fun _ _ u hu => ?_⟩
        exact fin _ _ (z, p') (go1.trans (g11.new hu)) ⟨rfl, pok⟩ ⟨u, _, _, _, rfl, upd_same, rfl, rfl, rfl⟩
      · obtain ⟨z1, z2⟩ := p_fst pA
        have zl : zs.length ≤ 3 := by rw [p_len pA]; exact cl
        refine ⟨D, acc, rfl, .inl ⟨.inl (.inl hD2), fun u hu => ⟨ln2, fun t ht => ?_⟩⟩⟩
        have k1 : Keep H8 (upd (upd H8 u (.tup acc)) t (.tup [V.str "set", V.ref u])) := kp_of ((same_new hu).trans (same_new ht))
        refine q _ (.sets zs) _ (((g7.trans go).new hu).new ht) ⟨t, V.ref u, rfl, upd_same, u, acc, rfl, same_new ht _ _ upd_same, mos (R := rTri rStr rStr rInt) k1 pz⟩ ⟨⟨by omega, by rw [z1]; exact cnd, fun t ht => ?_⟩, fun t ht => ?_, fun t ht => ?_, ?_⟩ rfl
        · exact ⟨ok.nm _ (cin _ (z2 t ht).1), (z2 t ht).2.src ok⟩
        · exact ⟨cin _ (z2 t ht).1, (z2 t ht).2.1⟩
        · exact (z2 t ht).2.2
        · show (srt (zs.map (·.1))).length + (zs.map (·.2)).length < 64
          rw [(srt_perm _).length_eq, List.length_map, List.length_map]; omega
    · refine ⟨_, rfl, b, _, rfl, g6.bag, by decide, by decide, fun v3 H7 g7 _ _ => ⟨rfl, ?_⟩⟩
      have gC := g6.trans g7
      by_cases e3 : v3 = 0
      · refine ⟨true, bT (by rw [e3]), iteT ?_⟩
        refine ⟨_, rfl, _, rfl, b, p, ys, rfl, gC.bag, hpb b rfl, ⟨_, g7.own hpb hp6, .inl rfl⟩, by omega, fun v zs H8 g8 pz ⟨c2, od2, xs2, e, hc2, pc2⟩ => ?_⟩
        subst e
        refine ⟨_, rfl, b, _, rfl, g8.bag, by decide, by decide, fun n H9 g9 n0 n1 => ⟨_, rfl, c2, xs2, rfl, .inl (.inr ⟨_, g9.keep _ _ trivial hc2⟩), fun c3 hc3 => ?_⟩⟩
        have gD := (gC.trans g8).trans g9
        have en : n = ((n.toNat : Nat) : Int) := by omega
        have e9 : cutV xs2 none (some n) = (zs.take n.toNat).map V.str := by rw [en, cutV_hi, strs_of pc2, List.map_take]; rfl
        rw [e9]
        refine rest2 _ _ ⟨c3, zs.take n.toNat, rfl, gD.new hc3, ⟨_, upd_same, .inl rfl⟩, (go_bag gD.bag).nb' hc3 b rfl, ?_, ?_, fun z hz => hin z (pz.mem_iff.mp (List.mem_of_mem_take hz))⟩
        · exact (pz.nodup_iff.mpr hnd).sublist (List.take_sublist _ _)
        · rw [List.length_take, pz.length_eq]; omega
      · refine ⟨false, bF (fun z => e3 (V.int.inj z)), iteF (rest2 _ _ ⟨c, [x], rfl, gC, ⟨_, g7.own hcb upd_same, .inl rfl⟩, hcb b rfl, by simp, by simp, fun z hz => by rw [List.mem_singleton.mp hz]; exact hx⟩)⟩
  · refine ⟨_, rfl, _, rfl, a, _, rfl, dgx gB hx, rfl, ?_⟩
    by_cases ep : kindIn ks x = "plain"
    · exact ⟨false, nbF (by rw [ep]), iteF (iteF (rest _ _ ⟨rfl, gB, hp4⟩))⟩
    refine ⟨true, nbT (fun z => ep (V.str.inj z)), iteT ?_⟩
    refine ⟨_, rfl, b, _, rfl, gB.bag, by decide, by decide, fun v3 H5 g5 _ _ => ⟨_, _, rfl, rfl, ?_⟩⟩
    have gC := gB.trans g5
    by_cases e3 : 0 < v3
    · refine ⟨true, bT e3, iteT ?_⟩
      obtain ⟨hi, ehi, eiff⟩ := kd_hi (ok.kd hx) ep
      dsimp only
      refine seq_mk (fun σ' H6 => σ' = [some (V.ref b), some (V.ref a), some (V.ref p), some (V.str x), some (V.str (if hi = true then "most" else "least")), none, none, none, none] ∧ H6 = H5) ?_ fun rest3 => ?_
      · rintro σ' H6 ⟨rfl, rfl⟩
        refine ⟨_, rfl, b, _, rfl, gC.bag, by decide, by decide, fun v4 H7 g7 v40 v41 => ?_⟩
        have gD := gC.trans g7
        refine ⟨_, _, rfl, rfl, _, rfl, by omega, by omega, fun D hDn => ?_⟩
        refine lc_r wd_range (some b) rPart (fun _ z => PartOk ks (kindIn ks x) z) hDn (go_bag gD.bag) (fun _ _ => trivial) (by rw [List.length_range]; exact sz1000 (by omega)) (fun i v H8 H9 N S hi' go y fin => ?_) fun H8 acc zs go hD2 pz pA => ?_
        · obtain ⟨rfl, rfl⟩ := y
          have g8 := gD.trans go
          refine ⟨rfl, yes ⟨_, rfl, _, rfl, _, rfl, _, rfl, a, _, rfl, dgx g8 hx, b, _, _, ks, rfl, g8.bag, hD g8, ok, fun v p' H11 g11 hv pok => fin _ _ p' g11 pok hv⟩⟩
        · have zl := p_len pA
          rw [List.length_range] at zl
          have pal := p_all pA
          refine ⟨_, rfl, _, rfl, _, rfl, D, acc, rfl, .inl ⟨.inl (.inl hD2), fun u hu => ⟨ln3, fun t ht => ?_⟩⟩⟩
          have k1 : Keep H8 (upd (upd H8 u (.tup acc)) t (.tup [V.str (if hi = true then "most" else "least"), V.str x, V.ref u])) := kp_of ((same_new hu).trans (same_new ht))
          refine q _ (.mx hi x zs) _ (((gD.trans go).new hu).new ht) ⟨t, V.ref u, rfl, upd_same, u, acc, rfl, same_new ht _ _ upd_same, mos (R := rPart) k1 pz⟩ ⟨⟨ok.nm x hx, fun z => ?_, by omega, fun t ht => (pal t ht).src ok⟩, ⟨hx, fun t ht => (pal t ht).1⟩, ⟨ehi, fun t ht => (pal t ht).2⟩, ?_⟩ rfl
          · rw [z] at zl
            simp only [List.length_nil] at zl
            omega
          · show 1 + zs.length < 64
            omega
      · refine ⟨_, rfl, _, rfl, a, _, rfl, dgx gC hx, rfl, ?_⟩
        cases hi with
        | true => exact ⟨true, sT (eiff.mpr rfl), iteT (rest3 _ _ ⟨rfl, rfl⟩)⟩
        | false => exact ⟨false, sF (fun z => nomatch eiff.mp z), iteF (rest3 _ _ ⟨rfl, rfl⟩)⟩
    · exact ⟨false, bF e3, iteF (rest _ _ ⟨rfl, gC, g5.own hpb hp4⟩)⟩
end Fp

/-! ## FpGenF -/
set_option Elab.async false
set_option linter.all false
set_option maxRecDepth 100000
set_option maxHeartbeats 2000000
namespace Fp
open PySem PySem.Spec PyProof.Rows L2
variable {P : Program} {w : World} {K : PySem.W.Frag} {mg : Str → Option Value} {base : Heap}
/-! ### heads -/
structure Hd where
  kinds : List (Str × Str)
  params : List Str
  results : List Str
  size : Int
  ways : List Wy
structure HdOk (h : Hd) : Prop where
  ks : KOk h.kinds
  ps : h.params.Nodup ∧ h.params.length ≤ 2 ∧ ∀ x ∈ h.params, x ∈ keys h.kinds
  rs : h.results.Nodup ∧ h.results.length ≤ 2 ∧ ∀ x ∈ h.results, x ∈ keys h.kinds
  sz : 1 ≤ h.size ∧ h.size ≤ 4
structure HdA (H : Hp) (a : Addr) (h : Hd) : Prop where
  ex : ∃ kvs kv pv rv wv, Rd H a (.dK kvs) ∧ kvs.length ≤ 5 ∧ valV kvs (Sum.inr "kinds") = some kv ∧ rDic rStr H kv h.kinds ∧ valV kvs (Sum.inr "params") = some pv ∧ rTup rStr H pv h.params ∧ valV kvs (Sum.inr "results") = some rv ∧ rTup rStr H rv h.results ∧
    valV kvs (Sum.inr "size") = some (.int h.size) ∧ valV kvs (Sum.inr "ways") = some wv ∧ rLst rWy H wv h.ways
def HdAt (H : Hp) (v : V) (h : Hd) : Prop := ∃ a, v = .ref a ∧ HdA H a h
theorem go_ne {m : Option Addr} {H H' : Hp} {a : Addr} {o : HO} (g : Go m H H') (h : H a = some o) (n : ∀ xs, o ≠ .lst xs) : ∀ b, m = some b → a ≠ b := fun b e z => by
  subst e
  obtain ⟨xs, e2⟩ := g.1.at
  rw [z, e2] at h
  cases h
  exact n _ rfl
theorem rd_go {m : Option Addr} {H H' : Hp} {a : Addr} {kvs : List (Key × V)} (g : Go m H H') (h : Rd H a (.dK kvs)) : Rd H' a (.dK kvs) := by
  rcases h with h | ⟨o, h⟩
  · exact .inl (g.own (go_ne g h fun xs z => nomatch z) h)
  · exact .inr ⟨o, g.keep _ _ trivial h⟩
theorem HdA.go {m : Option Addr} {H H' : Hp} {a : Addr} {h : Hd} (g : Go m H H') (x : HdA H a h) : HdA H' a h := by
  obtain ⟨kvs, kv, pv, rv, wv, h0, hl, h1, h2, h3, h4, h5, h6, h7, h8, h9⟩ := x.ex
  exact ⟨kvs, kv, pv, rv, wv, rd_go g h0, hl, h1, mo g.keep h2, h3, mo g.keep h4, h5, mo g.keep h6, h7, h8, mo g.keep h9⟩
theorem HdAt.go {m : Option Addr} {H H' : Hp} {v : V} {h : Hd} (g : Go m H H') (x : HdAt H v h) : HdAt H' v h := let ⟨a, e, x⟩ := x; ⟨a, e, x.go g⟩
theorem flat_strs : ∀ l : List Str, (l.map V.str).all flatV = true
  | [] => rfl
  | _ :: r => by rw [List.map_cons, List.all_cons, flat_strs r]; rfl
theorem pf_zip {α β : Type} {F : α → β → Prop} : ∀ {l : List α} {m : List β}, Paired F l m → ∀ x ∈ l.zip m, F x.1 x.2
  | _, _, .nil, x, h => absurd h (by simp)
  | _, _, .cons p t, x, h => by
    rw [List.zip_cons_cons] at h
    rcases List.mem_cons.mp h with e | h
    · rw [e]; exact p
    · exact pf_zip t x h
theorem pf_flip {α β : Type} {F : α → β → Prop} : ∀ {l : List α} {m : List β}, Paired F l m → Paired (fun b a => F a b) m l
  | _, _, .nil => .nil
  | _, _, .cons p t => .cons p (pf_flip t)
theorem pf_mem {α β : Type} {F : α → β → Prop} : ∀ {l : List α} {m : List β}, Paired F l m → Paired (fun a b => F a b ∧ a ∈ l ∧ b ∈ m) l m
  | _, _, .nil => .nil
  | _, _, .cons p t => .cons ⟨p, List.mem_cons_self, List.mem_cons_self⟩ (L2.Paired.mapP (pf_mem t) fun _ _ h => ⟨h.1, List.mem_cons_of_mem _ h.2.1, List.mem_cons_of_mem _ h.2.2⟩)
theorem pf_right {α β : Type} {F : α → β → Prop} : ∀ {l : List α} {m : List β}, Paired F l m → Paired (fun _ b => ∃ a, a ∈ l ∧ F a b) l m := fun p => L2.Paired.mapP (pf_mem p) fun a b h => ⟨a, h.2.1, h.1⟩
/-! ### calls -/
/-- slots: 0 _law_bag_here*, 1 _law_kinds_here*, 2 _law_name, 3 _law_other*, 4 _law_arguments, 5 _law_results*, 6 _law_left, 7 _law_result*, 8 _law_free, 9 _law_param, 10 _law_x -/
abbrev N_l_call : List Str := [Str.ofString "_law_bag_here", Str.ofString "_law_kinds_here", Str.ofString "_law_name", Str.ofString "_law_other", Str.ofString "_law_arguments", Str.ofString "_law_results", Str.ofString "_law_left", Str.ofString "_law_result", Str.ofString "_law_free", Str.ofString "_law_param", Str.ofString "_law_x"]
theorem sc_l_call : FnScope N_l_call [Str.ofString "_law_bag_here", Str.ofString "_law_kinds_here", Str.ofString "_law_name", Str.ofString "_law_other"] (defScope s_l_call) := ⟨rfl, rfl, rfl, by decide +kernel, rfl, by decide +kernel, by decide +kernel⟩
def CallGood (ks : List (Str × Str)) (name : Str) (h : Hd) (s : Sm) : Prop := GoodSm ks s ∧ (s = .skip ∨ ∃ as rs, s = .call name as rs ∧ ∀ p q : Pr, p.kinds = ks → q.kinds = h.kinds → q.params = h.params → q.results = h.results → CallFit p q as rs)
def S_lcall : Sq := fun vs H Q => ∃ (b : Addr) (kv ov : V) (name : Str) (ks : List (Str × Str)) (h : Hd), vs = [.ref b, kv, .str name, ov] ∧ Bag H b ∧ rDic rStr H kv ks ∧ KOk ks ∧ IsNm name ∧ HdAt H ov h ∧ HdOk h ∧
  ∀ v s H', Go (some b) H H' → rSm H' v s → CallGood ks name h s → Q v H'
theorem r_lcall (T : Tx K mg) (c_l_take : Cal P w K mg base 1 "_law_take" S_take) (c_l_mixed : Cal P w K mg base 2 "_law_mixed" S_mixed) (c_l_part : Cal P w K mg base 3 "_law_part" S_lpart) : FnR P w K mg base CX0 4 (a_l_call K) (sp S_lcall) := by
  refine fr_of (S := S_lcall) (N := N_l_call) (f_l_call T) sc_l_call (fun vs H Q h => by first | (obtain ⟨rfl, _⟩ := h; rfl) | (obtain ⟨_, rfl, _⟩ := h; rfl) | (obtain ⟨_, _, rfl, _⟩ := h; rfl) | (obtain ⟨_, _, _, rfl, _⟩ := h; rfl) | (obtain ⟨_, _, _, _, rfl, _⟩ := h; rfl) | (obtain ⟨_, _, _, _, _, rfl, _⟩ := h; rfl) | (obtain ⟨_, _, _, _, _, _, rfl, _⟩ := h; rfl) | (obtain ⟨_, _, _, _, _, _, _, rfl, _⟩ := h; rfl) | (obtain ⟨_, _, _, _, _, _, _, _, rfl, _⟩ := h; rfl) | (obtain ⟨_, _, _, _, _, _, _, _, _, rfl, _⟩ := h; rfl) | (obtain ⟨_, _, _, _, _, _, _, _, _, _, rfl, _⟩ := h; rfl) | (obtain ⟨_, _, _, _, _, _, _, _, _, _, _, rfl, _⟩ := h; rfl) | (obtain ⟨_, _, _, _, _, _, _, _, _, _, _, _, rfl, _⟩ := h; rfl) | (obtain ⟨_, _, _, _, _, _, _, _, _, _, _, _, _, rfl, _⟩ := h; rfl) | (obtain ⟨_, _, _, _, _, _, _, _, _, _, _, _, _, _, rfl, _⟩ := h; rfl) | (obtain ⟨_, _, _, _, _, _, _, _, _, _, _, _, _, _, _, rfl, _⟩ := h; rfl) | (obtain ⟨_, _, _, _, _, _, _, _, _, _, _, _, _, _, _, _, rfl, _⟩ := h; rfl)) (fun _ _ _ _ _ _ us hl => match us, hl with | [_, _, _, _], _ => rfl) (fun cdv A outer s H vs Q E hr h => ?_)
  obtain ⟨b, kv, ov, name, ks, hd, rfl, bag, ⟨a, od, kvs, rfl, ha, dp⟩, ok, hnm, ⟨oa, rfl, hoa⟩, hok, q⟩ := h
  obtain ⟨okvs, ka, pv, rv, wv, ho, hol, ek, rk, ep, rp, er, rr, es, ew, rw_⟩ := hoa.ex
  obtain ⟨kaa, kod, kkvs, rfl, hka, kdp⟩ := rk
  obtain ⟨paa, pxs, rfl, hpa, ppx⟩ := rp
  obtain ⟨raa, rxs, rfl, hra, prx⟩ := rr
  refine ⟨_, (pss_cons (ps_set (i := 4) sc_l_call.nd rfl (.inl rfl) (pe_callTy (cTup K rfl) rfl (n_tuple T) (by decide +kernel) (pa_cons (pe_lc (own := [("_law_param", 9)]) (g := gName 9) rfl sc_l_call.nd (piTup K rfl (pe_dget (hu_of hr) (pv 3) pe_str (fun _ _ => rfl))) (blkOk_by (own := [("_law_param", 9)]) (N := N_l_call) (sc := defScope s_l_call) (by decide +kernel)) (fun _ _ _ _ _ => (pg_name (i := 9) sc_l_call.nd rfl (.inl rfl))) (fun _ _ _ _ _ => pts_nil) (fun _ _ _ _ _ => (pcall c_l_part hr (by decide) rfl (pa_cons (pv 0) (pa_cons (pv 1) (pa_cons (pe_dget (hu_of hr) (pe_dget (hu_of hr) (pv 3) pe_str (fun _ _ => rfl)) (pv 9) (fun _ _ => rfl)) pa_nil)))))) pa_nil)))
      (pss_cons (ps_asg (pe_tup (pa_cons (pe_lst pa_nil) (pa_cons (pcall c_l_mixed hr (by decide) rfl (pa_cons (pv 0) (pa_cons (pe_callB (call_sortedD rfl) rfl (n_sorted T) (by decide +kernel) (pa_cons (pv 1) pa_nil)) pa_nil))) pa_nil))) (pgTup (n := 2) K rfl rfl (pgs_cons (pg_name (i := 5) sc_l_call.nd rfl (.inr rfl)) (pgs_cons (pg_name (i := 6) sc_l_call.nd rfl (.inl rfl)) pgs_nil))))
      (pss_cons (ps_for PassesOwn.never rfl (piTup K rfl (pe_dget (hu_of hr) (pv 3) pe_str (fun _ _ => rfl))) (pg_name (i := 7) sc_l_call.nd rfl (.inr rfl)) (pss_cons (ps_setLc (i := 8) (own := [("_law_x", 10)]) (g := gName 10) rfl sc_l_call.nd rfl rfl (sw_true rfl rfl rfl (by decide +kernel)) (piList K rfl (pv 6)) (blkOk_by (own := [("_law_x", 10)]) (N := N_l_call) (sc := defScope s_l_call) (by decide +kernel)) (fun _ _ _ _ _ => (pg_name (i := 10) sc_l_call.nd rfl (.inl rfl))) (fun _ _ _ _ _ => (pts_one (PW.pt (pw_and (pt_cmpR (ninSq K rfl) (pv 10) (pv 5) (by rfl)) (pw_and1 (pt_cmpR (inSq K rfl) (pe_dget (hu_of hr) (pe_dget (hu_of hr) (pv 3) pe_str (fun _ _ => rfl)) (pv 7) (fun _ _ => rfl)) (pe_tup (pa_cons pe_str (pa_cons (pe_dget (hu_of hr) (pv 1) (pv 10) (fun _ _ => rfl)) pa_nil))) (by rfl))))))) (fun _ _ _ _ _ => (pv 10)))
        (pss_cons (ps_if (pt_cmpR (eqD K rfl hr.units) (pv 8) (pe_lst pa_nil) (nomark _)) (pss_one (ps_ret (pe_tup (pa_cons pe_str pa_nil)))) pss_nil)
        (pss_one (ps_expr (pe_bm PySem.F.plainAttrs_list PySem.F.slot_list_append PySem.F.type_list_append mt_append (pv 5) (pa_cons (pe_ix (ixL K rfl) (pv 8) pe_int (fun _ _ => rfl)) pa_nil)))))))
      (pss_one (ps_ret (pe_tup (pa_cons pe_str (pa_cons (pv 2) (pa_cons (pv 4) (pa_cons (pe_callTy (cTup K rfl) rfl (n_tuple T) (by decide +kernel) (pa_cons (pv 5) pa_nil)) pa_nil)))))))))), ?_⟩
  have hO : ∀ {H' : Hp}, Go (some b) H H' → Rd H' oa (.dK okvs) := fun g => rd_go g ho
  have hDk : ∀ {H' : Hp}, Go (some b) H H' → rDic rStr H' (.ref a) ks := fun g => ⟨a, od, kvs, rfl, g.keep _ _ trivial ha, dp.mono g.keep⟩
  have dgK : ∀ {H' : Hp} {x : Str}, Go (some b) H H' → x ∈ keys ks → DGet H' a (.str x) (some (.str (kindIn ks x))) := fun g hx => dgR (.inr ⟨od, g.keep _ _ trivial ha⟩) (kd_get dp hx)
  have dgO : ∀ {H' : Hp} {x : Str}, Go (some b) H H' → x ∈ keys hd.kinds → DGet H' kaa (.str x) (some (.str (kindIn hd.kinds x))) := fun g hx => dgR (.inr ⟨kod, g.keep _ _ trivial hka⟩) (kd_get kdp hx)
  have dg1 : ∀ {H' : Hp}, Go (some b) H H' → DGet H' oa (.str "kinds") (some (.ref kaa)) := fun g => dgR (hO g) ek
  refine ⟨_, rfl, oa, _, rfl, dgR ho ep, paa, rfl, ⟨pxs, .inl (.inl hpa)⟩, fun D hD => ?_⟩
  refine lc_r (wd_tup ppx) (some b) rPart (fun z p => PartOk ks (kindIn hd.kinds z) p) hD (go_bag bag) (fun H' g => .inl (.inl (g.keep _ _ trivial hpa))) (sz1000 (by have := hok.ps.2.1; omega)) (fun z v H8 H9 N S hz go y fin => ?_) fun H8 acc as go hD2 pz pA => ?_
  · obtain ⟨rfl, rfl⟩ := y
    exact ⟨rfl, yes ⟨_, rfl, _, rfl, _, rfl, oa, _, rfl, dg1 go, _, rfl, kaa, _, rfl, dgO go (hok.ps.2.2 z hz), b, _, _, ks, rfl, go.bag, hDk go, ok, fun v p H11 g11 hv pok => fin _ _ p g11 pok hv⟩⟩
  refine ⟨D, acc, rfl, .inl ⟨.inl (.inl hD2), fun u hu => ?_⟩⟩
  have g1 : Go (some b) H (upd H8 u (.tup acc)) := go.new hu
  have has : rTup rPart (upd H8 u (.tup acc)) (.ref u) as := ⟨u, acc, rfl, upd_same, mos (R := rPart) (kp_new hu) pz⟩
  generalize upd H8 u (.tup acc) = H1 at g1 has ⊢
  have hasl : as.length = hd.params.length := p_len pA
  refine ⟨Nat.zero_le _, fun r hr0 => ?_⟩
  have g2 := g1.new (x := .lst []) hr0
  have go2 := (go_bag g1.bag).new (x := .lst []) hr0
  have hrb := (go_bag g1.bag).nb' hr0
  have hr2 : (upd H1 r (.lst [])) r = some (.lst []) := upd_same
  generalize upd H1 r (.lst []) = H2 at g2 hr2 go2 ⊢
  refine ⟨_, rfl, _, rfl, a, kvs, keys ks, rfl, .inr ⟨od, g2.keep _ _ trivial ha⟩, dp.keys, by have := ok.len; unfold keys; rw [List.length_map]; omega, fun ys p pm so hp => ?_⟩
  have g3 := g2.new (x := .lst (ys.map V.str)) hp
  have go3 := go2.new (x := .lst (ys.map V.str)) hp
  have hr3 : (upd H2 p (.lst (ys.map V.str))) r = some (.lst []) := same_new hp _ _ hr2
  have hyl : ys.length ≤ 3 := by
    have h1 := pm.length_eq
    have := ok.len
    unfold keys at h1
    rw [List.length_map] at h1
    omega
  refine ⟨b, p, ys, rfl, g3.bag, (go_bag g2.bag).nb' hp b rfl, ⟨_, upd_same, .inl rfl⟩, by omega, fun v left H5 g5 pl ⟨la, lod, lxs, e, hla, plx⟩ => ?_⟩
  subst e
  have plk : left.Perm (keys ks) := pl.trans pm
  refine ⟨ln2, fun t ht => ⟨t, _, rfl, .inl (.inl upd_same), rfl, _, _, rfl, _, _, rfl, rfl, ?_⟩⟩
  have s5 : Same H5 (upd H5 t (.tup [V.ref r, V.ref la])) := same_new ht
  have g6 := (g3.trans g5).same s5
  have go6 := (go3.trans g5).same s5
  have hr6 := s5 _ _ (g5.own hrb hr3)
  have hla6 := s5 _ _ hla
  generalize upd H5 t (.tup [V.ref r, V.ref la]) = H6 at g6 go6 hr6 hla6 ⊢
  have elx : lxs = left.map V.str := strs_of plx
  subst elx
  refine ⟨_, rfl, oa, _, rfl, dgR (hO g6) er, raa, rfl, ⟨rxs, .inl (.inl (g6.keep _ _ trivial hra))⟩, ?_⟩
  refine for_d (wd_tup prx) (fun (d : List Str) (σ : L2.St) (H' : Hp) => ∃ y7 y8 rs, σ = [some (V.ref b), some (V.ref a), some (V.str name), some (V.ref oa), some (V.ref u), some (V.ref r), some (V.ref la), y7, y8, none, none] ∧ Go (some b) H1 H' ∧ Keep H6 H' ∧ H' r = some (.lst (rs.map V.str)) ∧ rs.Nodup ∧ (∀ x ∈ rs, x ∈ keys ks) ∧ Paired (fun z x => Fit (kindIn hd.kinds z) (kindIn ks x)) d rs) ?_ ?_ ?_ ?_
  · exact ⟨none, none, [], rfl, go6, Keep.refl _, hr6, List.nodup_nil, fun x hx => absurd hx (List.not_mem_nil), .nil⟩
  · rintro d σ H' ⟨_, _, _, _, _, k, _⟩
    exact .inl (.inl (k _ _ trivial (g6.keep _ _ trivial hra)))
  · rintro d z rr v σ H7 H' el ⟨y7, y8, rs, rfl, g, k, hrr, rnd, rin, pf⟩ ⟨rfl, rfl⟩
    have hz : z ∈ keys hd.kinds := hok.rs.2.2 z (by rw [el]; simp)
    have gA := g1.trans g
    have rl : rs.length ≤ 2 := by
      have h1 := congrArg List.length el
      rw [List.length_append, List.length_cons] at h1
      have h2 := p_len pf
      have := hok.rs.2.1
      omega
    refine ⟨_, rfl, la, rfl, ⟨_, .inl (.inr ⟨_, k _ _ trivial hla6⟩)⟩, fun D hD => ?_⟩
    refine lc_p (wd_list (of_strs (H := H) left)) none rStr (fun x => !decide (x ∈ rs) && decide (kindIn hd.kinds z ∈ (["plain", kindIn ks x] : List Str))) (fun x => x) hD (go_refl _) (fun H8 g8 => .inl (.inr ⟨_, g8 _ _ (k _ _ trivial hla6)⟩)) (sz1000 (by rw [pl.length_eq]; omega)) (fun d2 x r2 v H8 H9 el2 go8 y fin fin2 => ?_) fun H8 acc2 go8 hD2 pa => ?_
    · obtain ⟨rfl, rfl⟩ := y
      have hx : x ∈ keys ks := plk.mem_iff.mp (by rw [el2]; simp)
      have gx := gA.same (show Same H' H9 from go8)
      refine ⟨rfl, _, rfl, _, rfl, r, _, rfl, .inl (.inl (.inl (go8 _ _ hrr))), rfl, flat_strs rs, (!decide (x ∈ rs)), by rw [← inV_strs]; rfl, ?_⟩
      by_cases e1 : x ∈ rs
      · have ef : (!decide (x ∈ rs) && decide (kindIn hd.kinds z ∈ (["plain", kindIn ks x] : List Str))) = false := by rw [decide_eq_true e1]; rfl
        rw [decide_eq_true e1]
        exact iteF (iteF (fin2 _ ef (go_refl _)))
      · rw [decide_eq_false e1]
        refine iteT ?_
        refine ⟨_, rfl, oa, _, rfl, dg1 gx, _, rfl, kaa, _, rfl, dgO gx hz, _, rfl, _, rfl, a, _, rfl, dgK gx hx, ln2, fun t ht => ?_⟩
        have st : Same H9 (upd H9 t (.tup [V.str "plain", V.str (kindIn ks x)])) := same_new ht
        refine ⟨t, _, rfl, .inr (.inl (.inl upd_same)), rfl, rfl, decide (kindIn hd.kinds z ∈ (["plain", kindIn ks x] : List Str)), by rw [← inV_strs]; rfl, ?_⟩
        by_cases e2 : kindIn hd.kinds z ∈ (["plain", kindIn ks x] : List Str)
        · rw [decide_eq_true e2]
          exact iteT ⟨_, rfl, fin _ _ (by rw [decide_eq_false e1, decide_eq_true e2]; rfl) st rfl⟩
        · rw [decide_eq_false e2]
          exact iteF (fin2 _ (by rw [decide_eq_false e1, decide_eq_false e2]; rfl) st)
    · rw [List.map_id'' (fun _ => rfl)] at pa
      have hmem : ∀ x ∈ List.filter (fun x => !decide (x ∈ rs) && decide (kindIn hd.kinds z ∈ (["plain", kindIn ks x] : List Str))) left, x ∈ keys ks ∧ x ∉ rs ∧ Fit (kindIn hd.kinds z) (kindIn ks x) := fun x hx => by
        obtain ⟨h1, h2⟩ := List.mem_filter.mp hx
        rw [Bool.and_eq_true] at h2
        refine ⟨plk.mem_iff.mp h1, fun m => ?_, ?_⟩
        · have := h2.1
          rw [decide_eq_true m] at this
          cases this
        · rcases List.mem_cons.mp (of_decide_eq_true h2.2) with e | e
          · exact .inl e
          · exact .inr (List.mem_singleton.mp e)
      generalize List.filter (fun x => !decide (x ∈ rs) && decide (kindIn hd.kinds z ∈ (["plain", kindIn ks x] : List Str))) left = fs at pa hmem
      have e9 : acc2 = fs.map V.str := strs_of pa
      subst e9
      have gB := gA.same (show Same H' H8 from go8)
      have hr8 := go8 _ _ hrr
      refine ⟨_, rfl, Nat.zero_le _, fun l hl => eq_nil (zs := fs) (.inl (.inl (same_new hl _ _ hD2))) (fun z hz => ok.nm z (hmem z hz).1) (.inl (.inl upd_same)) ?_⟩
      have gC := gB.new (x := .lst []) hl
      by_cases en : fs = []
      · exact ⟨true, bT en, iteT ⟨ln1, fun t ht => q _ .skip _ (gC.new ht) ⟨t, rfl, upd_same⟩ ⟨⟨trivial, trivial, trivial, by decide⟩, .inl rfl⟩⟩⟩
      refine ⟨false, bF en, iteF ?_⟩
      cases fs with
      | nil => exact absurd rfl en
      | cons x fr =>
        obtain ⟨m1, m2, m3⟩ := hmem x List.mem_cons_self
        have hr9 : (upd H8 l (.lst [])) r = some (.lst (rs.map V.str)) := same_new hl _ _ hr8
        refine ⟨_, rfl, .inl ⟨rfl, _, .inl (.inl hr9)⟩, _, rfl, _, _, _, _, rfl, rfl, .inl (.inl (same_new hl _ _ hD2)), at0, r, _, _, rfl, rfl, hr9, by rw [List.length_map]; exact big (by omega), ?_⟩
        have gm : Go (some b) H1 (upd (upd H8 l (.lst [])) r (.lst (rs.map V.str ++ [V.str x]))) := ((g.same (show Same H' H8 from go8)).new (x := .lst []) hl).mut hr0 (fun od u q => by rw [hr9] at q; cases q)
        have km : Keep H6 (upd (upd H8 l (.lst [])) r (.lst (rs.map V.str ++ [V.str x]))) := ((k.trans (kp_of (show Same H' H8 from go8))).trans (kp_new hl)).trans (kp_mut hr9 (fun z => z))
        refine ⟨_, _, rs ++ [x], rfl, gm, km, by rw [upd_same, List.map_append]; rfl, ?_, ?_, Paired.snoc pf m3⟩
        · exact List.nodup_append.mpr ⟨rnd, by simp, fun a ha b hb e => by rw [List.mem_singleton.mp hb] at e; exact m2 (e ▸ ha)⟩
        · intro y hy
          rcases List.mem_append.mp hy with h | h
          · exact rin y h
          · rw [List.mem_singleton.mp h]; exact m1
  · rintro σ H7 ⟨y7, y8, rs, rfl, g, k, hrr, rnd, rin, pf⟩
    have gA := g1.trans g
    have rl := p_len pf
    refine ⟨_, rfl, _, rfl, _, rfl, r, _, rfl, .inl ⟨.inl (.inl hrr), fun u2 hu2 => ⟨ln4, fun t ht => ?_⟩⟩⟩
    have gz := (gA.new (x := .tup (rs.map V.str)) hu2).new (x := .tup [V.str "call", V.str name, V.ref u, V.ref u2]) ht
    have kz : Keep H1 (upd (upd H7 u2 (.tup (rs.map V.str))) t (.tup [V.str "call", V.str name, V.ref u, V.ref u2])) := (g.keep.trans (kp_new hu2)).trans (kp_new ht)
    have pal := p_all (pf_right pA)
    have pf2 := pf_zip pf
    refine q _ (.call name as rs) _ gz ⟨t, V.ref u, V.ref u2, rfl, upd_same, mo kz has, u2, _, rfl, same_new ht _ _ upd_same, of_strs rs⟩ ⟨⟨⟨hnm, by have := hok.ps.2.1; omega, by have := hok.rs.2.1; omega, fun p hp => ?_, rnd, fun x hx => ok.nm x (rin x hx)⟩, ⟨fun p hp => ?_, rin⟩, trivial, ?_⟩, .inr ⟨as, rs, rfl, fun p q e1 e2 e3 e4 => ⟨by rw [hasl, e3], by rw [rl, e4], fun x hx => ?_, fun x hx => ?_⟩⟩⟩
    · obtain ⟨z, _, h⟩ := pal p hp
      exact h.src ok
    · obtain ⟨z, _, h⟩ := pal p hp
      exact h.1
    · show (srt rs).length + as.length < 64
      rw [(srt_perm _).length_eq]
      have := hok.ps.2.1
      have := hok.rs.2.1
      omega
    · rw [e1, e2]
      rw [e3] at hx
      obtain ⟨h1, h2⟩ := pf_zip (pf_flip (pf_mem pA)) x hx
      rw [hok.ks.kdk (hok.ps.2.2 _ h2.1)]
      exact h1.2
    · rw [e1, e2]
      rw [e4] at hx
      have h1 := pf2 x hx
      have h2 := List.of_mem_zip (show (x.1, x.2) ∈ hd.results.zip rs from hx)
      rw [hok.ks.kdk (hok.rs.2.2 _ h2.1), ok.kdk (rin _ h2.2)]
      exact h1
end Fp

/-! ## FpGenG -/
set_option Elab.async false
set_option linter.all false
set_option maxRecDepth 100000
set_option maxHeartbeats 2000000
namespace Fp
open PySem PySem.Spec PyProof.Rows L2
variable {P : Program} {w : World} {K : PySem.W.Frag} {mg : Str → Option Value} {base : Heap}
abbrev Hds := List (Str × Hd)
def HdsAt (H : Hp) (v : V) (F : Hds) : Prop := ∃ d kvs, v = .ref d ∧ Rd H d (.dK kvs) ∧ DicP HdAt H kvs F
structure HdsOk (F : Hds) : Prop where
  nd : (keys F).Nodup
  len : F.length ≤ 3
  ne : F ≠ []
  nm : ∀ x ∈ keys F, IsNm x
  ok : ∀ x ∈ F, HdOk x.2
theorem HdsAt.go {m : Option Addr} {H H' : Hp} {v : V} {F : Hds} (g : Go m H H') (x : HdsAt H v F) : HdsAt H' v F := by
  obtain ⟨d, kvs, e, h, p⟩ := x
  exact ⟨d, kvs, e, rd_go g h, L2.Paired.mapP p fun _ _ q => ⟨q.1, q.2.go g⟩⟩
theorem HdsAt.dic {H : Hp} {v : V} {F : Hds} (x : HdsAt H v F) : ∃ d kvs, v = .ref d ∧ Rd H d (.dK kvs) ∧ DicP HdAt H kvs F ∧ kvs.length = F.length := by
  obtain ⟨d, kvs, e, h, p⟩ := x
  exact ⟨d, kvs, e, h, p, p.len⟩
def WyGood (F : Hds) (h : Hd) (x : Wy) : Prop := (0 ≤ x.a ∧ x.a < h.size) ∧ (0 ≤ x.b ∧ x.b < h.size) ∧ GoodSm h.kinds x.s ∧
  ∀ f as rs, x.s = .call f as rs → ∃ g, lk F f = some g ∧ ∀ p q : Pr, p.kinds = h.kinds → q.kinds = g.kinds → q.params = g.params → q.results = g.results → CallFit p q as rs
theorem app_fin {β : Type} {R : Rep β} [Mono R] {m : Option Addr} {H H2 : Hp} {f t : Addr} {acc : List V} {L : List β} {z : β} {o : HO} (g : Go m H H2) (hfn : H f = none) (hf : H2 f = some (.lst acc)) (p : Paired (R H2) acc L) (ht : H2 t = none) (im : Im o)
    (hx : ∀ H', Keep (upd H2 t o) H' → H' t = some o → R H' (.ref t) z) : Go m H (upd (upd H2 t o) f (.lst (acc ++ [.ref t]))) ∧ (upd H2 t o) f = some (.lst acc) ∧ Paired (R (upd (upd H2 t o) f (.lst (acc ++ [.ref t])))) (acc ++ [.ref t]) (L ++ [z]) ∧ Keep H2 (upd (upd H2 t o) f (.lst (acc ++ [.ref t]))) := by
  have h2 : (upd H2 t o) f = some (.lst acc) := same_new ht _ _ hf
  have k : Keep (upd H2 t o) (upd (upd H2 t o) f (.lst (acc ++ [.ref t]))) := kp_mut h2 (fun z => z)
  refine ⟨(g.new ht).mut hfn (fun od u q => by rw [h2] at q; cases q), h2, Paired.app (mos ((kp_new ht).trans k) p) (.cons (hx _ k (k _ _ im upd_same)) .nil), (kp_new ht).trans k⟩
/-- slots: 0 _law_bag_here, 1 _law_heads, 2 _law_name, 3 _law_most, 4 _law_head_here, 5 _law_found, 6 _law_k, 7 _law_ways_here, 8 _law_place, 9 _law_goal, 10 _law_other -/
abbrev N_l_ways : List Str := [Str.ofString "_law_bag_here", Str.ofString "_law_heads", Str.ofString "_law_name", Str.ofString "_law_most", Str.ofString "_law_head_here", Str.ofString "_law_found", Str.ofString "_law_k", Str.ofString "_law_ways_here", Str.ofString "_law_place", Str.ofString "_law_goal", Str.ofString "_law_other"]
theorem sc_l_ways : FnScope N_l_ways [Str.ofString "_law_bag_here", Str.ofString "_law_heads", Str.ofString "_law_name", Str.ofString "_law_most"] (defScope s_l_ways) := ⟨rfl, rfl, rfl, by decide +kernel, rfl, by decide +kernel, by decide +kernel⟩
def S_lways : Sq := fun vs H Q => ∃ (b : Addr) (hv : V) (name : Str) (most : Int) (F : Hds) (h : Hd), vs = [.ref b, hv, .str name, .int most] ∧ Bag H b ∧ HdsAt H hv F ∧ HdsOk F ∧ lk F name = some h ∧ 1 ≤ most ∧ most ≤ 5 ∧
  ∀ v ws H', Go (some b) H H' → rLst rWy H' v ws → ws.length ≤ 7 → (∀ x ∈ ws, WyGood F h x) → Q v H'
theorem r_lways (T : Tx K mg) (c_l_take : Cal P w K mg base 1 "_law_take" S_take) (c_l_statement : Cal P w K mg base 4 "_law_statement" S_lstm) (c_l_call : Cal P w K mg base 4 "_law_call" S_lcall) : FnR P w K mg base CX0 5 (a_l_ways K) (sp S_lways) := by
  refine fr_of (S := S_lways) (N := N_l_ways) (f_l_ways T) sc_l_ways (fun vs H Q h => by first | (obtain ⟨rfl, _⟩ := h; rfl) | (obtain ⟨_, rfl, _⟩ := h; rfl) | (obtain ⟨_, _, rfl, _⟩ := h; rfl) | (obtain ⟨_, _, _, rfl, _⟩ := h; rfl) | (obtain ⟨_, _, _, _, rfl, _⟩ := h; rfl) | (obtain ⟨_, _, _, _, _, rfl, _⟩ := h; rfl) | (obtain ⟨_, _, _, _, _, _, rfl, _⟩ := h; rfl) | (obtain ⟨_, _, _, _, _, _, _, rfl, _⟩ := h; rfl) | (obtain ⟨_, _, _, _, _, _, _, _, rfl, _⟩ := h; rfl) | (obtain ⟨_, _, _, _, _, _, _, _, _, rfl, _⟩ := h; rfl) | (obtain ⟨_, _, _, _, _, _, _, _, _, _, rfl, _⟩ := h; rfl) | (obtain ⟨_, _, _, _, _, _, _, _, _, _, _, rfl, _⟩ := h; rfl) | (obtain ⟨_, _, _, _, _, _, _, _, _, _, _, _, rfl, _⟩ := h; rfl) | (obtain ⟨_, _, _, _, _, _, _, _, _, _, _, _, _, rfl, _⟩ := h; rfl) | (obtain ⟨_, _, _, _, _, _, _, _, _, _, _, _, _, _, rfl, _⟩ := h; rfl) | (obtain ⟨_, _, _, _, _, _, _, _, _, _, _, _, _, _, _, rfl, _⟩ := h; rfl) | (obtain ⟨_, _, _, _, _, _, _, _, _, _, _, _, _, _, _, _, rfl, _⟩ := h; rfl)) (fun _ _ _ _ _ _ us hl => match us, hl with | [_, _, _, _], _ => rfl) (fun cdv A outer s H vs Q E hr h => ?_)
  obtain ⟨b, hv, name, most, F, hd, rfl, bag, hds, hok, hlk, hm1, hm2, q⟩ := h
  obtain ⟨d, kvs, rfl, hd0, dp⟩ := id hds
  refine ⟨_, (pss_cons (ps_par (i := 4) (j := 5) rfl sc_l_ways.nd rfl rfl (by decide) rfl rfl (pa_cons (pe_dget (hu_of hr) (pv 1) (pv 2) (fun _ _ => rfl)) (pa_cons (pe_lst pa_nil) pa_nil)) (by rfl))
      (pss_cons (ps_for PassesOwn.never rfl (pi_range1 rfl (n_range T) (pa_cons (pe_ifExp (pt_cmpR op_gt (pcall c_l_take hr (by decide) rfl (pa_cons (pv 0) (pa_cons pe_int pa_nil))) pe_int (nomark _)) (pe_op op_sub (pe_dget (hu_of hr) (pv 4) pe_str (fun _ _ => rfl)) pe_int) pe_int) pa_nil)) (pg_name (i := 6) sc_l_ways.nd rfl (.inl rfl)) (pss_one (ps_expr (pe_bm PySem.F.plainAttrs_list PySem.F.slot_list_append PySem.F.type_list_append mt_append (pv 5) (pa_cons (pe_tup (pa_cons (pv 6) (pa_cons (pe_op op_add (pv 6) pe_int) pa_nil))) pa_nil)))))
      (pss_cons (ps_for PassesOwn.never rfl (pi_range1 rfl (n_range T) (pa_cons (pcall c_l_take hr (by decide) rfl (pa_cons (pv 0) (pa_cons (pv 3) pa_nil))) pa_nil)) (pg_name (i := 6) sc_l_ways.nd rfl (.inl rfl)) (pss_one (ps_expr (pe_bm PySem.F.plainAttrs_list PySem.F.slot_list_append PySem.F.type_list_append mt_append (pv 5) (pa_cons (pe_tup (pa_cons (pcall c_l_take hr (by decide) rfl (pa_cons (pv 0) (pa_cons (pe_dget (hu_of hr) (pv 4) pe_str (fun _ _ => rfl)) pa_nil))) (pa_cons (pcall c_l_take hr (by decide) rfl (pa_cons (pv 0) (pa_cons (pe_dget (hu_of hr) (pv 4) pe_str (fun _ _ => rfl)) pa_nil))) pa_nil))) pa_nil)))))
      (pss_cons (ps_set (i := 7) sc_l_ways.nd rfl (.inl rfl) (pe_lst pa_nil))
      (pss_cons (ps_for PassesOwn.never rfl (piList K rfl (pv 5)) (pgTup (n := 2) K rfl rfl (pgs_cons (pg_name (i := 8) sc_l_ways.nd rfl (.inl rfl)) (pgs_cons (pg_name (i := 9) sc_l_ways.nd rfl (.inl rfl)) pgs_nil))) (pss_one (ps_if (pt_cmpR op_eq (pcall c_l_take hr (by decide) rfl (pa_cons (pv 0) (pa_cons pe_int pa_nil))) pe_int (nomark _)) (pss_cons (ps_set (i := 10) sc_l_ways.nd rfl (.inl rfl) (pe_ix (ixL K rfl) (pe_callB (call_sortedD rfl) rfl (n_sorted T) (by decide +kernel) (pa_cons (pv 1) pa_nil)) (pcall c_l_take hr (by decide) rfl (pa_cons (pv 0) (pa_cons (pe_callB call_lenDR rfl (n_len T) (by decide +kernel) (pa_cons (pv 1) pa_nil)) pa_nil))) (fun _ _ => rfl)))
          (pss_one (ps_expr (pe_bm PySem.F.plainAttrs_list PySem.F.slot_list_append PySem.F.type_list_append mt_append (pv 7) (pa_cons (pe_tup (pa_cons (pv 8) (pa_cons (pv 9) (pa_cons (pcall c_l_call hr (by decide) rfl (pa_cons (pv 0) (pa_cons (pe_dget (hu_of hr) (pv 4) pe_str (fun _ _ => rfl)) (pa_cons (pv 10) (pa_cons (pe_dget (hu_of hr) (pv 1) (pv 10) (fun _ _ => rfl)) pa_nil))))) pa_nil)))) pa_nil))))) (pss_one (ps_expr (pe_bm PySem.F.plainAttrs_list PySem.F.slot_list_append PySem.F.type_list_append mt_append (pv 7) (pa_cons (pe_tup (pa_cons (pv 8) (pa_cons (pv 9) (pa_cons (pcall c_l_statement hr (by decide) rfl (pa_cons (pv 0) (pa_cons (pe_dget (hu_of hr) (pv 4) pe_str (fun _ _ => rfl)) pa_nil))) pa_nil)))) pa_nil)))))))
      (pss_one (ps_ret (pe_fz (pv 7))))))))), ?_⟩
  obtain ⟨hv0, ev0, ha0⟩ := dp.some hlk
  obtain ⟨a, rfl, hA⟩ := id ha0
  have hokh : HdOk hd := hok.ok _ (lk_mem hlk)
  obtain ⟨akvs, kv, pv, rv, wv, ho, hol, ek, rk, ep, rp, er, rr, es, ew, rw_⟩ := hA.ex
  have hsz := hokh.sz
  have hO : ∀ {H' : Hp}, Go (some b) H H' → Rd H' a (.dK akvs) := fun g => rd_go g ho
  have hD : ∀ {H' : Hp}, Go (some b) H H' → Rd H' d (.dK kvs) := fun g => rd_go g hd0
  have dgS : ∀ {H' : Hp}, Go (some b) H H' → DGet H' a (.str "size") (some (.int hd.size)) := fun g => dgR (hO g) es
  have dgk : ∀ {H' : Hp}, Go (some b) H H' → DGet H' a (.str "kinds") (some kv) := fun g => dgR (hO g) ek
  refine ⟨_, rfl, _, rfl, d, _, rfl, dgR hd0 ev0, Nat.zero_le _, fun f hf => ⟨_, _, rfl, ?_⟩⟩
  have g1 := (go_bag bag).new (x := .lst []) hf
  have hfb := (go_bag bag).nb' hf
  dsimp only
  let FI : Nat → L2.St → Hp → Prop := fun n σ H' => ∃ y6, σ = [some (V.ref b), some (V.ref d), some (V.str name), some (V.int most), some (V.ref a), some (V.ref f), y6, none, none, none, none] ∧ Go (some b) H H' ∧ ∃ (acc : List V) (prs : List (Int × Int)), H' f = some (.lst acc) ∧ Paired (rPair rInt rInt H') acc prs ∧ prs.length ≤ n ∧ ∀ p ∈ prs, (0 ≤ p.1 ∧ p.1 < hd.size) ∧ (0 ≤ p.2 ∧ p.2 < hd.size)
  have app : ∀ {n : Nat} {H2 : Hp} {acc : List V} {prs : List (Int × Int)} {p : Int × Int} {t : Addr}, n ≤ 20 → Go (some b) H H2 → H2 f = some (.lst acc) → Paired (rPair rInt rInt H2) acc prs → prs.length ≤ n → (∀ p ∈ prs, (0 ≤ p.1 ∧ p.1 < hd.size) ∧ (0 ≤ p.2 ∧ p.2 < hd.size)) → ((0 ≤ p.1 ∧ p.1 < hd.size) ∧ (0 ≤ p.2 ∧ p.2 < hd.size)) → H2 t = none →
      ∀ y6, (upd H2 t (.tup [.int p.1, .int p.2])) f = some (.lst acc) ∧ acc.length < sizeLine ∧ FI (n + 1) [some (V.ref b), some (V.ref d), some (V.str name), some (V.int most), some (V.ref a), some (V.ref f), y6, none, none, none, none] (upd (upd H2 t (.tup [.int p.1, .int p.2])) f (.lst (acc ++ [.ref t]))) := by
    intro n H2 acc prs p t hn g hf2 pp hl al hp ht y6
    obtain ⟨z1, z2, z3, _⟩ := app_fin (R := rPair rInt rInt) (z := p) (o := .tup [.int p.1, .int p.2]) g hf hf2 pp ht trivial fun H' k h => ⟨t, _, _, rfl, h, rfl, rfl⟩
    refine ⟨z2, by rw [Paired.length pp]; exact big (by omega), y6, rfl, z1, _, prs ++ [p], upd_same, z3, ?_, fun x hx => ?_⟩
    · rw [List.length_append]; simp only [List.length_singleton]; omega
    · rcases List.mem_append.mp hx with h | h
      · exact al x h
      · rw [List.mem_singleton.mp h]; exact hp
  refine seq_mk (FI 3) ?_ fun rest => ?_
  · rintro σ' H2 ⟨y6, rfl, g2, acc, prs, hf2, pp, hl, al⟩
    refine seq_mk (FI 7) ?_ fun rest2 => ?_
    · rintro σ' H3 ⟨y6, rfl, g3, accF, prs, hf3, pp, hl, al⟩
      refine ⟨Nat.zero_le _, fun w_ hw => ?_⟩
      have g4 := g3.new (x := .lst []) hw
      have hwn := g3.free hw
      have hfw : f ≠ w_ := fun z => by rw [z, hw] at hf3; cases hf3
      have hf4 : (upd H3 w_ (.lst [])) f = some (.lst accF) := same_new hw _ _ hf3
      have pp4 : Paired (rPair rInt rInt (upd H3 w_ (.lst []))) accF prs := mos (R := rPair rInt rInt) (kp_new hw) pp
      have hw4 : (upd H3 w_ (.lst [])) w_ = some (.lst []) := upd_same
      generalize upd H3 w_ (.lst []) = H4 at g4 hf4 pp4 hw4 ⊢
      refine ⟨_, rfl, f, rfl, ⟨_, .inl (.inl hf4)⟩, ?_⟩
      refine for_d (wd_list pp4) (fun (dn : List (Int × Int)) (σ : L2.St) (H' : Hp) => ∃ y8 y9 y10, σ = [some (V.ref b), some (V.ref d), some (V.str name), some (V.int most), some (V.ref a), some (V.ref f), y6, some (V.ref w_), y8, y9, y10] ∧ Go (some b) H H' ∧ Keep H4 H' ∧ H' f = some (.lst accF) ∧ ∃ (acc : List V) (ws : List Wy), H' w_ = some (.lst acc) ∧ Paired (rWy H') acc ws ∧ ws.length ≤ dn.length ∧ ∀ x ∈ ws, WyGood F hd x) ?_ ?_ ?_ ?_
      · exact ⟨_, _, _, rfl, g4, Keep.refl _, hf4, [], [], hw4, .nil, Nat.le_refl _, fun x hx => absurd hx (List.not_mem_nil)⟩
      · rintro dn σ H' ⟨_, _, _, _, _, _, hf', _⟩
        exact .inl (.inl hf')
      · rintro dn z rr v σ H5 H' el ⟨y8, y9, y10, rfl, g5, k5, hf5, acc, ws, hw5, pw, hwl, wal⟩ ⟨rfl, ⟨t, _, _, rfl, ht, rfl, rfl⟩⟩
        have hzr := al z (by rw [el]; simp)
        have hdn : dn.length < 7 := by
          have := congrArg List.length el
          rw [List.length_append, List.length_cons] at this
          omega
        refine ⟨t, _, rfl, .inl (.inl (k5 _ _ trivial ht)), rfl, _, _, rfl, _, _, rfl, rfl, ?_⟩
        refine ⟨_, rfl, b, _, rfl, g5.bag, by decide, by decide, fun v3 H6 g6 _ _ => ⟨rfl, ?_⟩⟩
        have gA := g5.trans g6
        have hf6 := g6.own hfb hf5
        have hwb := (go_bag bag).nb' hwn
        have hw6 := g6.own hwb hw5
        have pw6 : Paired (rWy H6) acc ws := mos (R := rWy) g6.keep pw
        -- the way is added
        have fin : ∀ (v : V) (s : Sm) (H7 : Hp) (y10 : Option V), Go (some b) H6 H7 → rSm H7 v s → WyGood F hd ⟨z.1, z.2, s⟩ → ∀ t2, H7 t2 = none → ∃ (l : Addr) (xs : List V) (y : V), V.ref w_ = .ref l ∧ [V.ref t2] = [y] ∧ (upd H7 t2 (.tup [.int z.1, .int z.2, v])) l = some (.lst xs) ∧ xs.length < sizeLine ∧
            ∃ y8' y9' y10', [some (V.ref b), some (V.ref d), some (V.str name), some (V.int most), some (V.ref a), some (V.ref f), y6, some (V.ref w_), some (V.int z.1), some (V.int z.2), y10] = [some (V.ref b), some (V.ref d), some (V.str name), some (V.int most), some (V.ref a), some (V.ref f), y6, some (V.ref w_), y8', y9', y10'] ∧ Go (some b) H (upd (upd H7 t2 (.tup [.int z.1, .int z.2, v])) l (.lst (xs ++ [y]))) ∧ Keep H4 (upd (upd H7 t2 (.tup [.int z.1, .int z.2, v])) l (.lst (xs ++ [y]))) ∧ (upd (upd H7 t2 (.tup [.int z.1, .int z.2, v])) l (.lst (xs ++ [y]))) f = some (.lst accF) ∧
              ∃ (acc' : List V) (ws' : List Wy), (upd (upd H7 t2 (.tup [.int z.1, .int z.2, v])) l (.lst (xs ++ [y]))) w_ = some (.lst acc') ∧ Paired (rWy (upd (upd H7 t2 (.tup [.int z.1, .int z.2, v])) l (.lst (xs ++ [y])))) acc' ws' ∧ ws'.length ≤ (dn ++ [z]).length ∧ ∀ x ∈ ws', WyGood F hd x := by
          intro v s H7 y10 g7 hs good t2 ht2
          have hw7 := g7.own hwb hw6
          obtain ⟨z1, z2, z3, z4⟩ := app_fin (R := rWy) (z := ⟨z.1, z.2, s⟩) (o := .tup [.int z.1, .int z.2, v]) (gA.trans g7) hwn hw7 (mos (R := rWy) g7.keep pw6) ht2 trivial fun H' k h => ⟨t2, v, rfl, h, mo ((kp_new ht2).trans k) hs⟩
          refine ⟨w_, acc, _, rfl, rfl, z2, by rw [Paired.length pw]; exact big (by omega), _, _, _, rfl, z1, ((k5.trans g6.keep).trans g7.keep).trans z4, ?_, _, ws ++ [⟨z.1, z.2, s⟩], upd_same, z3, ?_, fun x hx => ?_⟩
          · rw [upd_ne hfw]; exact same_new ht2 _ _ (g7.own hfb hf6)
          · rw [List.length_append, List.length_append]; simp only [List.length_singleton]; omega
          · rcases List.mem_append.mp hx with h | h
            · exact wal x h
            · rw [List.mem_singleton.mp h]; exact good
        by_cases e3 : v3 = 0
        · refine ⟨true, bT (by rw [e3]), iteT ?_⟩
          refine ⟨_, rfl, d, kvs, keys F, rfl, hD gA, dp.keys, by have := hok.len; unfold keys; rw [List.length_map]; omega, fun ys p pm so hp => ?_⟩
          have g7 := gA.new (x := .lst (ys.map V.str)) hp
          have go7 := (go_bag gA.bag).new (x := .lst (ys.map V.str)) hp
          have hpb := (go_bag gA.bag).nb' hp
          have hp7 : (upd H6 p (.lst (ys.map V.str))) p = some (.lst (ys.map V.str)) := upd_same
          generalize upd H6 p (.lst (ys.map V.str)) = H7 at g7 go7 hp7 ⊢
          have hkl : kvs.length = F.length := dp.len
          have hF1 : 1 ≤ F.length := by
            rcases hF : F with _ | ⟨x, r⟩
            · exact absurd hF hok.ne
            · simp
          have hFl := hok.len
          have hyl : ys.length = F.length := by rw [pm.length_eq]; unfold keys; rw [List.length_map]
          refine ⟨_, rfl, _, rfl, d, kvs, rfl, hD g7, b, _, rfl, g7.bag, by omega, by omega, fun v4 H8 g8 h0 h1 => ?_⟩
          obtain ⟨x, hx, hat⟩ := at_strs (ys := ys) h0 (by omega)
          refine ⟨_, _, _, _, rfl, rfl, .inl (.inl (g8.own hpb hp7)), hat, ?_⟩
          have hxF : x ∈ keys F := pm.mem_iff.mp hx
          obtain ⟨gh, hgl⟩ := lk_some hxF
          obtain ⟨gv, egv, hgv⟩ := dp.some hgl
          have gB := g7.trans g8
          have go8 := go7.trans g8
          refine ⟨_, rfl, .inl ⟨rfl, _, .inl (.inl (go8.own hwb hw6))⟩, _, rfl, _, rfl, _, rfl, _, rfl, a, _, rfl, dgk gB, _, rfl, _, rfl, _, rfl, d, _, rfl, dgR (hD gB) egv, ?_⟩
          refine ⟨b, _, _, x, hd.kinds, gh, rfl, gB.bag, mo gB.keep rk, hokh.ks, hok.nm x hxF, hgv.go gB, hok.ok _ (lk_mem hgl), fun v5 s H9 g9 hs good => ⟨ln3, fun t2 ht2 => ?_⟩⟩
          refine fin v5 s H9 _ (go8.trans g9) hs ⟨hzr.1, hzr.2, good.1, fun f' as rs e => ?_⟩ t2 ht2
          rcases good.2 with e2 | ⟨as2, rs2, e2, h2⟩
          · rw [e2] at e; cases e
          · rw [e2] at e
            cases e
            exact ⟨gh, hgl, h2⟩
        · refine ⟨false, bF (fun z => e3 (V.int.inj z)), iteF ?_⟩
          refine ⟨_, rfl, .inl ⟨rfl, _, .inl (.inl hw6)⟩, _, rfl, _, rfl, _, rfl, _, rfl, a, _, rfl, dgk gA, ?_⟩
          refine ⟨b, _, hd.kinds, rfl, gA.bag, mo gA.keep rk, hokh.ks, fun v5 s H9 g9 hs good nc => ⟨ln3, fun t2 ht2 => ?_⟩⟩
          refine fin v5 s H9 _ g9 hs ⟨hzr.1, hzr.2, good, fun f' as rs e => ?_⟩ t2 ht2
          change s = _ at e
          rw [e] at nc
          cases nc
      · rintro σ H5 ⟨y8, y9, y10, rfl, g5, k5, hf5, acc, ws, hw5, pw, hwl, wal⟩
        refine ⟨_, rfl, w_, _, rfl, hw5, trivial, fun od => ?_⟩
        exact q _ ws _ (g5.mut hwn (fun od u q => by rw [hw5] at q; cases q)) ⟨w_, od, acc, rfl, upd_same, mos (R := rWy) (kp_mut hw5 (fun z => z)) pw⟩ (by omega) wal
    · -- some more
      refine ⟨_, rfl, _, rfl, b, _, rfl, g2.bag, hm1, by omega, fun v H3 g3 h0 h1 => ?_⟩
      refine ⟨v, rfl, by omega, by omega, ?_⟩
      refine for_d wd_range (fun (dn : List Nat) (σ : L2.St) (H' : Hp) => FI (3 + dn.length) σ H') ?_ ?_ ?_ ?_
      · exact ⟨y6, rfl, g2.trans g3, acc, prs, g3.own hfb hf2, mos (R := rPair rInt rInt) g3.keep pp, hl, al⟩
      · intro _ _ _ _; trivial
      · rintro dn i rr x σ H5 H' el ⟨y6, rfl, g5, acc, prs, hf5, pp, hl, al⟩ ⟨rfl, rfl⟩
        have hdn : dn.length < 4 := by
          have := congrArg List.length el
          rw [List.length_append, List.length_cons, List.length_range] at this
          omega
        refine ⟨_, rfl, .inl ⟨rfl, _, .inl (.inl hf5)⟩, _, rfl, _, rfl, a, _, rfl, dgS g5, b, _, rfl, g5.bag, hsz.1, by omega, fun p1 H6 g6 h60 h61 => ?_⟩
        refine ⟨_, rfl, _, rfl, a, _, rfl, dgS (g5.trans g6), b, _, rfl, g6.bag, hsz.1, by omega, fun p2 H7 g7 h70 h71 => ⟨ln2, fun t ht => ?_⟩⟩
        have go := g6.trans g7
        obtain ⟨z1, z2, z3⟩ := app (p := (p1, p2)) (n := 3 + dn.length) (by omega) (g5.trans go) (go.own hfb hf5) (mos (R := rPair rInt rInt) go.keep pp) hl al ⟨⟨h60, h61⟩, ⟨h70, h71⟩⟩ ht (some (V.int (i : Nat)))
        refine ⟨f, acc, _, rfl, rfl, z1, z2, ?_⟩
        rw [List.length_append]
        exact z3
      · rintro σ H5 h
        refine rest2 _ _ ?_
        obtain ⟨y6, e, g5, acc, prs, hf5, pp, hl, al⟩ := h
        refine ⟨y6, e, g5, acc, prs, hf5, pp, ?_, al⟩
        rw [List.length_range] at hl
        omega
  · -- the chain
    refine ⟨_, rfl, b, _, rfl, g1.bag, by decide, by decide, fun v3 H2 g2 _ _ => ⟨_, _, rfl, rfl, ?_⟩⟩
    have gA := g1.trans g2
    have hf2 : H2 f = some (.lst []) := g2.own hfb upd_same
    by_cases e3 : 0 < v3
    · refine ⟨true, bT e3, iteT ?_⟩
      refine ⟨_, rfl, a, _, rfl, dgS gA, _, _, rfl, rfl, hd.size - 1, rfl, by omega, by omega, ?_⟩
      refine for_d wd_range (fun (dn : List Nat) (σ : L2.St) (H' : Hp) => FI dn.length σ H') ?_ ?_ ?_ ?_
      · exact ⟨none, rfl, gA, [], [], hf2, .nil, Nat.zero_le _, fun x hx => absurd hx (List.not_mem_nil)⟩
      · intro _ _ _ _; trivial
      · rintro dn i rr x σ H5 H' el ⟨y6, rfl, g5, acc, prs, hf5, pp, hl, al⟩ ⟨rfl, rfl⟩
        have hi := List.mem_range.mp (show i ∈ List.range _ from by rw [el]; simp)
        have hdn : dn.length < 4 := by
          have := congrArg List.length el
          rw [List.length_append, List.length_cons, List.length_range] at this
          omega
        refine ⟨_, rfl, .inl ⟨rfl, _, .inl (.inl hf5)⟩, _, rfl, _, rfl, _, _, rfl, rfl, ln2, fun t ht => ?_⟩
        obtain ⟨z1, z2, z3⟩ := app (p := (((i : Nat) : Int), ((i : Nat) : Int) + 1)) (n := dn.length) (by omega) g5 hf5 pp hl al ⟨⟨by show (0 : Int) ≤ ((i : Nat) : Int); omega, by show ((i : Nat) : Int) < hd.size; omega⟩, ⟨by show (0 : Int) ≤ ((i : Nat) : Int) + 1; omega, by show ((i : Nat) : Int) + 1 < hd.size; omega⟩⟩ ht (some (V.int (i : Nat)))
        refine ⟨f, acc, _, rfl, rfl, z1, z2, ?_⟩
        rw [List.length_append]
        exact z3
      · rintro σ H5 ⟨y6, e, g5, acc, prs, hf5, pp, hl, al⟩
        refine rest _ _ ⟨y6, e, g5, acc, prs, hf5, pp, ?_, al⟩
        rw [List.length_range] at hl
        omega
    · refine ⟨false, bF e3, iteF ?_⟩
      refine ⟨0, rfl, by decide, by decide, ?_⟩
      refine for_d wd_range (fun (dn : List Nat) (σ : L2.St) (H' : Hp) => FI dn.length σ H') ?_ ?_ ?_ ?_
      · exact ⟨none, rfl, gA, [], [], hf2, .nil, Nat.zero_le _, fun x hx => absurd hx (List.not_mem_nil)⟩
      · intro _ _ _ _; trivial
      · rintro dn i rr x σ H5 H' el ⟨y6, rfl, g5, acc, prs, hf5, pp, hl, al⟩ ⟨rfl, rfl⟩
        have hi := List.mem_range.mp (show i ∈ List.range _ from by rw [el]; simp)
        have hdn : dn.length < 4 := by
          have := congrArg List.length el
          rw [List.length_append, List.length_cons, List.length_range] at this
          omega
        refine ⟨_, rfl, .inl ⟨rfl, _, .inl (.inl hf5)⟩, _, rfl, _, rfl, _, _, rfl, rfl, ln2, fun t ht => ?_⟩
        obtain ⟨z1, z2, z3⟩ := app (p := (((i : Nat) : Int), ((i : Nat) : Int) + 1)) (n := dn.length) (by omega) g5 hf5 pp hl al ⟨⟨by show (0 : Int) ≤ ((i : Nat) : Int); omega, by show ((i : Nat) : Int) < hd.size; omega⟩, ⟨by show (0 : Int) ≤ ((i : Nat) : Int) + 1; omega, by show ((i : Nat) : Int) + 1 < hd.size; omega⟩⟩ ht (some (V.int (i : Nat)))
        refine ⟨f, acc, _, rfl, rfl, z1, z2, ?_⟩
        rw [List.length_append]
        exact z3
      · rintro σ H5 ⟨y6, e, g5, acc, prs, hf5, pp, hl, al⟩
        refine rest _ _ ⟨y6, e, g5, acc, prs, hf5, pp, ?_, al⟩
        rw [List.length_range] at hl
        omega
end Fp

/-! ## FpGenH -/
set_option Elab.async false
set_option linter.all false
set_option maxRecDepth 100000
set_option maxHeartbeats 2000000
namespace Fp
open PySem PySem.Spec PyProof.Rows L2
variable {P : Program} {w : World} {K : PySem.W.Frag} {mg : Str → Option Value} {base : Heap}
/-! ### a head -/
def HdF (H : Hp) (kvs : List (Key × V)) (h : Hd) : Prop := ∃ kv pv rv wv, kvs.length ≤ 5 ∧ valV kvs (Sum.inr "kinds") = some kv ∧ rDic rStr H kv h.kinds ∧ valV kvs (Sum.inr "params") = some pv ∧ rTup rStr H pv h.params ∧ valV kvs (Sum.inr "results") = some rv ∧ rTup rStr H rv h.results ∧
    valV kvs (Sum.inr "size") = some (.int h.size) ∧ valV kvs (Sum.inr "ways") = some wv ∧ rLst rWy H wv h.ways
theorem HdF.mono {H H' : Hp} {kvs : List (Key × V)} {h : Hd} (k : Keep H H') (x : HdF H kvs h) : HdF H' kvs h := by
  obtain ⟨kv, pv, rv, wv, hl, h1, h2, h3, h4, h5, h6, h7, h8, h9⟩ := x
  exact ⟨kv, pv, rv, wv, hl, h1, mo k h2, h3, mo k h4, h5, mo k h6, h7, h8, mo k h9⟩
/-- a head that may still be changed -/
def HdU (H : Hp) (a : Addr) (h : Hd) : Prop := ∃ kvs, H a = some (.dK kvs) ∧ HdF H kvs h
theorem HdU.a {H : Hp} {a : Addr} {h : Hd} (x : HdU H a h) : HdA H a h := by
  obtain ⟨kvs, e, kv, pv, rv, wv, hl, h1, h2, h3, h4, h5, h6, h7, h8, h9⟩ := x
  exact ⟨kvs, kv, pv, rv, wv, .inl e, hl, h1, h2, h3, h4, h5, h6, h7, h8, h9⟩
theorem HdU.go {m : Option Addr} {H H' : Hp} {a : Addr} {h : Hd} (g : Go m H H') (x : HdU H a h) : HdU H' a h := by
  obtain ⟨kvs, e, f⟩ := x
  exact ⟨kvs, g.own (go_ne g e fun xs z => nomatch z) e, f.mono g.keep⟩
theorem int8 {v : Int} (h0 : 0 ≤ v) (h1 : v < 8) : ∃ i : Int, atI [V.int 1, V.int 2, V.int 3, V.int 1, V.int 2, V.int 3, V.int 2, V.int 0] v = some (.int i) ∧ 0 ≤ i ∧ i ≤ 3 := by
  rcases (by omega : v = 0 ∨ v = 1 ∨ v = 2 ∨ v = 3 ∨ v = 4 ∨ v = 5 ∨ v = 6 ∨ v = 7) with rfl | rfl | rfl | rfl | rfl | rfl | rfl | rfl
  · exact ⟨1, atI_nat (j := 0) rfl, by decide, by decide⟩
  · exact ⟨2, atI_nat (j := 1) rfl, by decide, by decide⟩
  · exact ⟨3, atI_nat (j := 2) rfl, by decide, by decide⟩
  · exact ⟨1, atI_nat (j := 3) rfl, by decide, by decide⟩
  · exact ⟨2, atI_nat (j := 4) rfl, by decide, by decide⟩
  · exact ⟨3, atI_nat (j := 5) rfl, by decide, by decide⟩
  · exact ⟨2, atI_nat (j := 6) rfl, by decide, by decide⟩
  · exact ⟨0, atI_nat (j := 7) rfl, by decide, by decide⟩
theorem int6 {v : Int} (h0 : 0 ≤ v) (h1 : v < 6) : ∃ i : Int, atI [V.int 1, V.int 2, V.int 2, V.int 3, V.int 3, V.int 4] v = some (.int i) ∧ 1 ≤ i ∧ i ≤ 4 := by
  rcases (by omega : v = 0 ∨ v = 1 ∨ v = 2 ∨ v = 3 ∨ v = 4 ∨ v = 5) with rfl | rfl | rfl | rfl | rfl | rfl
  · exact ⟨1, atI_nat (j := 0) rfl, by decide, by decide⟩
  · exact ⟨2, atI_nat (j := 1) rfl, by decide, by decide⟩
  · exact ⟨2, atI_nat (j := 2) rfl, by decide, by decide⟩
  · exact ⟨3, atI_nat (j := 3) rfl, by decide, by decide⟩
  · exact ⟨3, atI_nat (j := 4) rfl, by decide, by decide⟩
  · exact ⟨4, atI_nat (j := 5) rfl, by decide, by decide⟩
/-- slots: 0 _law_bag_here, 1 _law_kinds_here, 2 _law_params, 3 _law_results, 4 _law_size -/
abbrev N_l_head : List Str := [Str.ofString "_law_bag_here", Str.ofString "_law_kinds_here", Str.ofString "_law_params", Str.ofString "_law_results", Str.ofString "_law_size"]
theorem sc_l_head : FnScope N_l_head [Str.ofString "_law_bag_here"] (defScope s_l_head) := ⟨rfl, rfl, rfl, by decide +kernel, rfl, by decide +kernel, by decide +kernel⟩
def S_lhead : Sq := fun vs H Q => ∃ (b : Addr), vs = [.ref b] ∧ Bag H b ∧ ∀ a h H', Go (some b) H H' → H a = none → HdU H' a h → HdOk h → h.ways = [] → Q (.ref a) H'
theorem r_lhead (T : Tx K mg) (c_l_take : Cal P w K mg base 1 "_law_take" S_take) (c_l_mixed : Cal P w K mg base 2 "_law_mixed" S_mixed) (c_l_names : Cal P w K mg base 2 "_law_names" S_names) (c_l_kinds : Cal P w K mg base 2 "_law_kinds" S_lkinds) : FnR P w K mg base CX0 3 (a_l_head K) (sp S_lhead) := by
  refine fr_of (S := S_lhead) (N := N_l_head) (f_l_head T) sc_l_head (fun vs H Q h => by first | (obtain ⟨rfl, _⟩ := h; rfl) | (obtain ⟨_, rfl, _⟩ := h; rfl) | (obtain ⟨_, _, rfl, _⟩ := h; rfl) | (obtain ⟨_, _, _, rfl, _⟩ := h; rfl) | (obtain ⟨_, _, _, _, rfl, _⟩ := h; rfl) | (obtain ⟨_, _, _, _, _, rfl, _⟩ := h; rfl) | (obtain ⟨_, _, _, _, _, _, rfl, _⟩ := h; rfl) | (obtain ⟨_, _, _, _, _, _, _, rfl, _⟩ := h; rfl) | (obtain ⟨_, _, _, _, _, _, _, _, rfl, _⟩ := h; rfl) | (obtain ⟨_, _, _, _, _, _, _, _, _, rfl, _⟩ := h; rfl) | (obtain ⟨_, _, _, _, _, _, _, _, _, _, rfl, _⟩ := h; rfl) | (obtain ⟨_, _, _, _, _, _, _, _, _, _, _, rfl, _⟩ := h; rfl) | (obtain ⟨_, _, _, _, _, _, _, _, _, _, _, _, rfl, _⟩ := h; rfl) | (obtain ⟨_, _, _, _, _, _, _, _, _, _, _, _, _, rfl, _⟩ := h; rfl) | (obtain ⟨_, _, _, _, _, _, _, _, _, _, _, _, _, _, rfl, _⟩ := h; rfl) | (obtain ⟨_, _, _, _, _, _, _, _, _, _, _, _, _, _, _, rfl, _⟩ := h; rfl) | (obtain ⟨_, _, _, _, _, _, _, _, _, _, _, _, _, _, _, _, rfl, _⟩ := h; rfl)) (fun _ _ _ _ _ _ us hl => match us, hl with | [_], _ => rfl) (fun cdv A outer s H vs Q E hr h => ?_)
  obtain ⟨b, rfl, bag, q⟩ := h
  refine ⟨_, (pss_cons (ps_set (i := 1) sc_l_head.nd rfl (.inl rfl) (pcall c_l_kinds hr (by decide) rfl (pa_cons (pv 0) (pa_cons (pcall c_l_names hr (by decide) rfl (pa_cons (pv 0) (pa_cons (pe_ix (ixL K rfl) (pe_lst (pa_cons pe_int (pa_cons pe_int (pa_cons pe_int (pa_cons pe_int (pa_cons pe_int (pa_cons pe_int (pa_cons pe_int (pa_cons pe_int pa_nil))))))))) (pcall c_l_take hr (by decide) rfl (pa_cons (pv 0) (pa_cons pe_int pa_nil))) (fun _ _ => rfl)) pa_nil))) pa_nil))))
      (pss_cons (ps_set (i := 2) sc_l_head.nd rfl (.inl rfl) (pe_slice (slL K rfl) (pcall c_l_mixed hr (by decide) rfl (pa_cons (pv 0) (pa_cons (pe_callB (call_sortedD rfl) rfl (n_sorted T) (by decide +kernel) (pa_cons (pv 1) pa_nil)) pa_nil))) po_none (po_some (pcall c_l_take hr (by decide) rfl (pa_cons (pv 0) (pa_cons pe_int pa_nil))))))
      (pss_cons (ps_set (i := 3) sc_l_head.nd rfl (.inl rfl) (pe_slice (slL K rfl) (pcall c_l_mixed hr (by decide) rfl (pa_cons (pv 0) (pa_cons (pe_callB (call_sortedD rfl) rfl (n_sorted T) (by decide +kernel) (pa_cons (pv 1) pa_nil)) pa_nil))) po_none (po_some (pcall c_l_take hr (by decide) rfl (pa_cons (pv 0) (pa_cons pe_int pa_nil))))))
      (pss_cons (ps_set (i := 4) sc_l_head.nd rfl (.inl rfl) (pe_ix (ixL K rfl) (pe_lst (pa_cons pe_int (pa_cons pe_int (pa_cons pe_int (pa_cons pe_int (pa_cons pe_int (pa_cons pe_int pa_nil))))))) (pcall c_l_take hr (by decide) rfl (pa_cons (pv 0) (pa_cons pe_int pa_nil))) (fun _ _ => rfl)))
      (pss_one (ps_ret (pe_disp (pps_cons pe_str (pv 1) (pps_cons pe_str (pe_callTy (cTup K rfl) rfl (n_tuple T) (by decide +kernel) (pa_cons (pv 2) pa_nil)) (pps_cons pe_str (pe_callTy (cTup K rfl) rfl (n_tuple T) (by decide +kernel) (pa_cons (pv 3) pa_nil)) (pps_cons pe_str (pv 4) (pps_cons pe_str (pe_fz (pe_lst pa_nil)) pps_nil))))) (by rfl) (by rfl) (fun z => by cases z) (by decide)))))))), ?_⟩
  refine ⟨_, rfl, _, rfl, by show 8 ≤ sizeLine; decide, fun l hl => ?_⟩
  have g1 := (go_bag bag).new (x := .lst [V.int 1, V.int 2, V.int 3, V.int 1, V.int 2, V.int 3, V.int 2, V.int 0]) hl
  refine ⟨_, rfl, b, _, rfl, g1.bag, by decide, by decide, fun v8 H2 g2 h80 h81 => ?_⟩
  obtain ⟨i8, e8, i80, i81⟩ := int8 h80 h81
  refine ⟨_, _, _, _, rfl, rfl, .inl (.inl (g2.own ((go_bag bag).nb' hl) upd_same)), e8, ?_⟩
  refine ⟨b, i8, rfl, g2.bag, i80, i81, fun nv ns H3 g3 hns nnm nl nne => ?_⟩
  refine ⟨b, nv, ns, rfl, g3.bag, hns, nnm, nl, fun kv ks H4 g4 ⟨a, od, kvs, e, ha, dp⟩ ok => ?_⟩
  subst e
  have gA := ((g1.trans g2).trans g3).trans g4
  dsimp only
  refine seq_mk (fun σ' H' => ∃ (c : Addr) (ps : List Str), σ' = [some (V.ref b), some (V.ref a), some (V.ref c), none, none] ∧ Go (some b) H H' ∧ Keep H4 H' ∧ Ls H' c (ps.map V.str) ∧ c ≠ b ∧ ps.Nodup ∧ ps.length ≤ 2 ∧ ∀ z ∈ ps, z ∈ keys ks) ?_ fun rest => ?_
  · rintro σ' H5 ⟨c, ps, rfl, g5, k5, hc, hcb', pn1, pn2, pn3⟩
    refine seq_mk (fun σ' H' => ∃ (c2 : Addr) (rs : List Str), σ' = [some (V.ref b), some (V.ref a), some (V.ref c), some (V.ref c2), none] ∧ Go (some b) H H' ∧ Keep H4 H' ∧ Ls H' c (ps.map V.str) ∧ Ls H' c2 (rs.map V.str) ∧ c2 ≠ b ∧ rs.Nodup ∧ rs.length ≤ 2 ∧ ∀ z ∈ rs, z ∈ keys ks) ?_ fun rest2 => ?_
    · rintro σ' H6 ⟨c2, rs, rfl, g6, k6, hc, hc2, hc2b, rn1, rn2, rn3⟩
      refine ⟨by show 6 ≤ sizeLine; decide, fun l6 hl6 => ?_⟩
      have g7 := g6.new (x := .lst [V.int 1, V.int 2, V.int 2, V.int 3, V.int 3, V.int 4]) hl6
      have go7 := (go_bag g6.bag).new (x := .lst [V.int 1, V.int 2, V.int 2, V.int 3, V.int 3, V.int 4]) hl6
      refine ⟨_, rfl, b, _, rfl, g7.bag, by decide, by decide, fun v6 H8 g8 h60 h61 => ?_⟩
      obtain ⟨sz, e6, s1, s2⟩ := int6 h60 h61
      refine ⟨_, _, _, _, rfl, rfl, .inl (.inl (g8.own ((go_bag g6.bag).nb' hl6) upd_same)), e6, ?_⟩
      have go8 := go7.trans g8
      have gB := g6.trans go8
      have lc := hc.go go8 fun b' e => by cases e; exact hcb'
      have lc2 := hc2.go go8 fun b' e => by cases e; exact hc2b
      intro d hd
      have gC := gB.new (x := .dK []) hd
      have goC := go8.new (x := .dK []) hd
      refine ⟨_, rfl, _, rfl, c, _, rfl, .inl ⟨(lc.go ((go_bag gB.bag).new (x := .dK []) hd) fun b' e => by cases e; exact hcb').seq, fun t1 ht1 => ?_⟩⟩
      refine ⟨_, rfl, c2, _, rfl, .inl ⟨(lc2.go (((go_bag gB.bag).new (x := .dK []) hd).new (x := .tup (ps.map V.str)) ht1) fun b' e => by cases e; exact hc2b).seq, fun t2 ht2 => ?_⟩⟩
      refine ⟨_, rfl, Nat.zero_le _, fun t3 ht3 => ⟨t3, _, rfl, upd_same, trivial, fun od3 => ?_⟩⟩
      rw [upd_upd]
      have s8 : Same H8 (upd (upd (upd H8 d (.dK [])) t1 (.tup (ps.map V.str))) t2 (.tup (rs.map V.str))) := ((same_new hd).trans (same_new ht1)).trans (same_new ht2)
      have hd2 : (upd (upd (upd H8 d (.dK [])) t1 (.tup (ps.map V.str))) t2 (.tup (rs.map V.str))) d = some (.dK []) := (same_new ht2) _ _ ((same_new ht1) _ _ upd_same)
      have ht12 : (upd (upd (upd H8 d (.dK [])) t1 (.tup (ps.map V.str))) t2 (.tup (rs.map V.str))) t1 = some (.tup (ps.map V.str)) := (same_new ht2) _ _ upd_same
      have ht22 : (upd (upd (upd H8 d (.dK [])) t1 (.tup (ps.map V.str))) t2 (.tup (rs.map V.str))) t2 = some (.tup (rs.map V.str)) := upd_same
      change upd (upd (upd H8 d (.dK [])) t1 (.tup (ps.map V.str))) t2 (.tup (rs.map V.str)) t3 = none at ht3
      generalize hH9 : upd (upd (upd H8 d (.dK [])) t1 (.tup (ps.map V.str))) t2 (.tup (rs.map V.str)) = H9 at s8 hd2 ht12 ht22 ht3
      have s9 : Same H9 (upd H9 t3 (.frz od3 (.lst []))) := same_new ht3
      refine ⟨s9 _ _ hd2, [(Sum.inr "kinds", .ref a), (Sum.inr "params", .ref t1), (Sum.inr "results", .ref t2), (Sum.inr "size", .int sz), (Sum.inr "ways", .ref t3)], rfl, by show 5 ≤ 15; decide, ?_⟩
      have em : mergeK [] [((Sum.inr "kinds" : Key), V.ref a), (Sum.inr "params", .ref t1), (Sum.inr "results", .ref t2), (Sum.inr "size", .int sz), (Sum.inr "ways", .ref t3)] = [((Sum.inr "kinds" : Key), V.ref a), (Sum.inr "params", .ref t1), (Sum.inr "results", .ref t2), (Sum.inr "size", .int sz), (Sum.inr "ways", .ref t3)] := rfl
      rw [em]
      have hdn : H d = none := gB.free hd
      have gE := (gB.same s8).same s9
      have ed := s9 _ _ hd2
      have kE : Keep (upd H9 t3 (.frz od3 (.lst []))) (upd (upd H9 t3 (.frz od3 (.lst []))) d (.dK [((Sum.inr "kinds" : Key), V.ref a), (Sum.inr "params", .ref t1), (Sum.inr "results", .ref t2), (Sum.inr "size", .int sz), (Sum.inr "ways", .ref t3)])) := kp_mut ed (fun z => z)
      have kF : Keep H9 _ := (kp_of s9).trans kE
      have kG : Keep H4 _ := ((k6.trans go8.keep).trans (kp_of s8)).trans kF
      refine q d ⟨ks, ps, rs, sz, []⟩ _ (gE.mut hdn (fun od u z => by rw [ed] at z; cases z)) hdn ⟨_, upd_same, .ref a, .ref t1, .ref t2, .ref t3, by show 5 ≤ 5; decide, rfl, ⟨a, od, kvs, rfl, kG _ _ trivial ha, dp.mono kG⟩, rfl, ⟨t1, _, rfl, kF _ _ trivial ht12, of_strs ps⟩, rfl, ⟨t2, _, rfl, kF _ _ trivial ht22, of_strs rs⟩, rfl, rfl, ⟨t3, od3, [], rfl, kE _ _ trivial upd_same, .nil⟩⟩ ⟨ok, ⟨pn1, pn2, pn3⟩, ⟨rn1, rn2, rn3⟩, ⟨s1, s2⟩⟩ rfl
    refine ⟨_, rfl, _, rfl, a, kvs, keys ks, rfl, .inr ⟨od, k5 _ _ trivial ha⟩, dp.keys, by have := ok.len; unfold keys; rw [List.length_map]; omega, fun ys p pm so hp => ?_⟩
    have gp := g5.new (x := .lst (ys.map V.str)) hp
    have hyl : ys.length ≤ 3 := by
      have h1 := pm.length_eq
      have := ok.len
      unfold keys at h1
      rw [List.length_map] at h1
      omega
    refine ⟨b, p, ys, rfl, gp.bag, (go_bag g5.bag).nb' hp b rfl, ⟨_, upd_same, .inl rfl⟩, by omega, fun v zs H8 g8 pz ⟨c2, od2, xs2, e, hc2, pc2⟩ => ?_⟩
    subst e
    refine ⟨_, rfl, b, _, rfl, g8.bag, by decide, by decide, fun n H9 g9 n0 n1 => ⟨_, rfl, c2, xs2, rfl, .inl (.inr ⟨_, g9.keep _ _ trivial hc2⟩), fun c3 hc3 => ?_⟩⟩
    have gD := (gp.trans g8).trans g9
    have goD := (((go_bag g5.bag).new (x := .lst (ys.map V.str)) hp).trans g8).trans g9
    have en : n = ((n.toNat : Nat) : Int) := by omega
    have e9 : cutV xs2 none (some n) = (zs.take n.toNat).map V.str := by rw [en, cutV_hi, strs_of pc2, List.map_take]; rfl
    rw [e9]
    have hcb := (go_bag gD.bag).nb' hc3
    have n1 : (zs.take n.toNat).Nodup := (pz.nodup_iff.mpr (pm.nodup_iff.mpr ok.nd)).sublist (List.take_sublist _ _)
    have n2 : (zs.take n.toNat).length ≤ 2 := by rw [List.length_take]; omega
    have n3 : ∀ z ∈ zs.take n.toNat, z ∈ keys ks := fun z hz => pm.mem_iff.mp (pz.mem_iff.mp (List.mem_of_mem_take hz))
    exact rest2 _ _ ⟨c3, zs.take n.toNat, rfl, gD.new hc3, (k5.trans goD.keep).trans (kp_new hc3), (hc.go goD fun b' e => by cases e; exact hcb').go ((go_bag gD.bag).new hc3) (fun b' e => by cases e; exact hcb'), ls_new, hcb b rfl, n1, n2, n3⟩
  · refine ⟨_, rfl, _, rfl, a, kvs, keys ks, rfl, .inr ⟨od, ha⟩, dp.keys, by have := ok.len; unfold keys; rw [List.length_map]; omega, fun ys p pm so hp => ?_⟩
    have gp := gA.new (x := .lst (ys.map V.str)) hp
    have hyl : ys.length ≤ 3 := by
      have h1 := pm.length_eq
      have := ok.len
      unfold keys at h1
      rw [List.length_map] at h1
      omega
    refine ⟨b, p, ys, rfl, gp.bag, (go_bag gA.bag).nb' hp b rfl, ⟨_, upd_same, .inl rfl⟩, by omega, fun v zs H8 g8 pz ⟨c2, od2, xs2, e, hc2, pc2⟩ => ?_⟩
    subst e
    refine ⟨_, rfl, b, _, rfl, g8.bag, by decide, by decide, fun n H9 g9 n0 n1 => ⟨_, rfl, c2, xs2, rfl, .inl (.inr ⟨_, g9.keep _ _ trivial hc2⟩), fun c3 hc3 => ?_⟩⟩
    have gD := (gp.trans g8).trans g9
    have goD := (((go_bag gA.bag).new (x := .lst (ys.map V.str)) hp).trans g8).trans g9
    have en : n = ((n.toNat : Nat) : Int) := by omega
    have e9 : cutV xs2 none (some n) = (zs.take n.toNat).map V.str := by rw [en, cutV_hi, strs_of pc2, List.map_take]; rfl
    rw [e9]
    have hcb := (go_bag gD.bag).nb' hc3
    have n1 : (zs.take n.toNat).Nodup := (pz.nodup_iff.mpr (pm.nodup_iff.mpr ok.nd)).sublist (List.take_sublist _ _)
    have n2 : (zs.take n.toNat).length ≤ 2 := by rw [List.length_take]; omega
    have n3 : ∀ z ∈ zs.take n.toNat, z ∈ keys ks := fun z hz => pm.mem_iff.mp (pz.mem_iff.mp (List.mem_of_mem_take hz))
    exact rest _ _ ⟨c3, zs.take n.toNat, rfl, gD.new hc3, goD.keep.trans (kp_new hc3), ls_new, hcb b rfl, n1, n2, n3⟩
end Fp

/-! ## FpGenI -/
set_option Elab.async false
set_option linter.all false
set_option maxRecDepth 100000
set_option maxHeartbeats 2000000
namespace Fp
open PySem PySem.Spec PyProof.Rows L2
variable {P : Program} {w : World} {K : PySem.W.Frag} {mg : Str → Option Value} {base : Heap}
/-! ### the model -/
/-- what is drawn: the first name, and the heads with their ways -/
structure MdOk (first : Str) (F : Hds) : Prop where
  ok : HdsOk F
  first : first ∈ keys F
  ways : ∀ x ∈ F, x.2.ways.length ≤ 7 ∧ ∀ y ∈ x.2.ways, WyGood F x.2 y
/-- the heads' dict is at rest, each head's own dict is not -/
def HdsFz (H : Hp) (v : V) (F : Hds) : Prop := ∃ d od kvs, v = .ref d ∧ H d = some (.frz od (.dK kvs)) ∧ DicP HdAt H kvs F
def MdAt (H : Hp) (v : V) (first : Str) (F : Hds) : Prop := ∃ a od kvs hv, v = .ref a ∧ H a = some (.frz od (.dK kvs)) ∧ valV kvs (Sum.inr "first") = some (.str first) ∧ valV kvs (Sum.inr "procedures") = some hv ∧ HdsFz H hv F
theorem HdsFz.at {H : Hp} {v : V} {F : Hds} (h : HdsFz H v F) : HdsAt H v F := let ⟨d, od, kvs, e, h1, h2⟩ := h; ⟨d, kvs, e, .inr ⟨od, h1⟩, h2⟩
theorem HdsFz.go {m : Option Addr} {H H' : Hp} {v : V} {F : Hds} (g : Go m H H') (h : HdsFz H v F) : HdsFz H' v F := by
  obtain ⟨d, od, kvs, e, h1, h2⟩ := h
  exact ⟨d, od, kvs, e, g.keep _ _ trivial h1, L2.Paired.mapP h2 fun _ _ q => ⟨q.1, q.2.go g⟩⟩
theorem MdAt.go {m : Option Addr} {H H' : Hp} {v : V} {f : Str} {F : Hds} (g : Go m H H') (h : MdAt H v f F) : MdAt H' v f F := by
  obtain ⟨a, od, kvs, hv, e, h1, h2, h3, h4⟩ := h
  exact ⟨a, od, kvs, hv, e, g.keep _ _ trivial h1, h2, h3, h4.go g⟩
/-- heads that are being made: each with its place -/
abbrev HdL := List (Str × (Addr × Hd))
def rHL : Rep (Addr × Hd) := fun H v p => v = .ref p.1 ∧ HdU H p.1 p.2
def toF (L : HdL) : Hds := L.map fun p => (p.1, p.2.2)
theorem toF_keys (L : HdL) : keys (toF L) = keys L := by unfold keys toF; rw [List.map_map]; rfl
theorem toF_lk : ∀ (L : HdL) (k : Str), lk (toF L) k = (lk L k).map (·.2)
  | [], _ => rfl
  | p :: r, k => by
    show (if p.1 = k then some p.2.2 else lk (toF r) k) = Option.map _ (if p.1 = k then some p.2 else lk r k)
    by_cases e : p.1 = k
    · rw [if_pos e, if_pos e]; rfl
    · rw [if_neg e, if_neg e, toF_lk r k]
theorem hl_go {m : Option Addr} {H H' : Hp} {kvs : List (Key × V)} {L : HdL} (g : Go m H H') (h : DicP rHL H kvs L) : DicP rHL H' kvs L := L2.Paired.mapP h fun _ _ q => ⟨q.1, q.2.1, q.2.2.go g⟩
theorem hl_at {H : Hp} {kvs : List (Key × V)} {L : HdL} (h : DicP rHL H kvs L) : DicP HdAt H kvs (toF L) := by
  unfold DicP toF
  have := Paired.map2 (G := fun (kv : Key × V) (p : Str × Hd) => kv.1 = Sum.inr p.1 ∧ HdAt H kv.2 p.2) (f := fun x => x) (g := fun p : Str × (Addr × Hd) => (p.1, p.2.2)) h fun a b q => ⟨q.1, b.2.1, q.2.1, q.2.2.a⟩
  rw [List.map_id'' (fun _ => rfl)] at this
  exact this
theorem HdU.upd {H : Hp} {a d : Addr} {h : Hd} {o o' : HO} (x : HdU H a h) (n : a ≠ d) (e : H d = some o) (ni : ¬ Im o) : HdU (upd H d o') a h := by
  obtain ⟨kvs, e1, f⟩ := x
  exact ⟨kvs, by rw [upd_ne n]; exact e1, f.mono (kp_mut e ni)⟩
def setW (L : HdL) (x : Str) (ws : List Wy) : HdL := L.map fun p => if p.1 = x then (p.1, p.2.1, { p.2.2 with ways := ws }) else p
theorem setW_keys (L : HdL) (x : Str) (ws : List Wy) : keys (setW L x ws) = keys L := by
  unfold keys setW
  rw [List.map_map]
  refine List.map_congr_left fun p _ => ?_
  show (if p.1 = x then (p.1, p.2.1, { p.2.2 with ways := ws }) else p).1 = p.1
  split <;> rfl
theorem WyGood.cong {F F' : Hds} {h h' : Hd} {x : Wy} (hf : ∀ f g, lk F f = some g → ∃ g', lk F' f = some g' ∧ g'.kinds = g.kinds ∧ g'.params = g.params ∧ g'.results = g.results) (hk : h'.kinds = h.kinds) (hs : h'.size = h.size) (w : WyGood F h x) : WyGood F' h' x := by
  obtain ⟨w1, w2, w3, w4⟩ := w
  refine ⟨by rw [hs]; exact w1, by rw [hs]; exact w2, by rw [hk]; exact w3, fun f as rs e => ?_⟩
  obtain ⟨g, hg, hp⟩ := w4 f as rs e
  obtain ⟨g', hg', e1, e2, e3⟩ := hf f g hg
  exact ⟨g', hg', fun p q q1 q2 q3 q4 => hp p q (q1.trans hk) (q2.trans e1) (q3.trans e2) (q4.trans e3)⟩
theorem setW_lk (x : Str) (ws : List Wy) (k : Str) : ∀ L : HdL, lk (setW L x ws) k = (lk L k).map fun p => if k = x then (p.1, { p.2 with ways := ws }) else p
  | [] => rfl
  | p :: r => by
    have ih := setW_lk x ws k r
    show (if (if p.1 = x then (p.1, p.2.1, { p.2.2 with ways := ws }) else p).1 = k then some (if p.1 = x then (p.1, p.2.1, { p.2.2 with ways := ws }) else p).2 else lk (setW r x ws) k) = Option.map _ (if p.1 = k then some p.2 else lk r k)
    have e1 : (if p.1 = x then (p.1, p.2.1, { p.2.2 with ways := ws }) else p).1 = p.1 := by split <;> rfl
    rw [e1]
    by_cases e : p.1 = k
    · rw [if_pos e, if_pos e]
      show some _ = some _
      by_cases e2 : p.1 = x
      · rw [if_pos e2]
        show _ = some (if k = x then _ else _)
        rw [if_pos (e ▸ e2)]
      · rw [if_neg e2]
        show _ = some (if k = x then _ else _)
        rw [if_neg (fun z => e2 (e.trans z))]
    · rw [if_neg e, if_neg e, ih]
theorem pf_mem2 {α β : Type} {F : α → β → Prop} : ∀ {l : List α} {m : List β}, Paired F l m → ∀ y ∈ m, ∃ x ∈ l, F x y
  | _, _, .nil, y, h => absurd h (List.not_mem_nil)
  | _, _, .cons p t, y, h => by
    rcases List.mem_cons.mp h with e | h
    · rw [e]; exact ⟨_, List.mem_cons_self, p⟩
    · obtain ⟨x, hx, f⟩ := pf_mem2 t y h
      exact ⟨x, List.mem_cons_of_mem _ hx, f⟩
theorem pf_imp2 {α β : Type} {F G : α → β → Prop} {l : List α} {m : List β} (p : Paired F l m) (h : ∀ a, ∀ b ∈ m, F a b → G a b) : Paired G l m := L2.Paired.mapP (pf_mem p) fun a b q => h a b q.2.2 q.1
theorem HdF.ways {H : Hp} {kvs : List (Key × V)} {h : Hd} {wv : V} {ws : List Wy} (x : HdF H kvs h) (hw : rLst rWy H wv ws) : HdF H (putK kvs (Sum.inr "ways") wv) { h with ways := ws } := by
  obtain ⟨kv, pv, rv, wv0, hl, h1, h2, h3, h4, h5, h6, h7, h8, h9⟩ := x
  have n1 : ¬ (Sum.inr ("kinds" : Str) : Key) = Sum.inr ("ways" : Str) := by decide +kernel
  have n2 : ¬ (Sum.inr ("params" : Str) : Key) = Sum.inr ("ways" : Str) := by decide +kernel
  have n3 : ¬ (Sum.inr ("results" : Str) : Key) = Sum.inr ("ways" : Str) := by decide +kernel
  have n4 : ¬ (Sum.inr ("size" : Str) : Key) = Sum.inr ("ways" : Str) := by decide +kernel
  refine ⟨kv, pv, rv, wv, ?_, by rw [valV_put, if_neg n1]; exact h1, h2, by rw [valV_put, if_neg n2]; exact h3, h4, by rw [valV_put, if_neg n3]; exact h5, h6, by rw [valV_put, if_neg n4]; exact h7, by rw [valV_put, if_pos rfl], hw⟩
  unfold putK
  rw [valV_any, h8]
  show (List.map _ kvs).length ≤ 5
  rw [List.length_map]
  exact hl
/-- heads in the making -/
structure LOk (H : Hp) (d : Addr) (L : HdL) : Prop where
  nd : (keys L).Nodup
  nm : ∀ x ∈ keys L, IsNm x
  ok : ∀ p ∈ L, HdOk p.2.2
  off : ∀ p ∈ L, p.2.1 ≠ d
  fr : ∀ p ∈ L, H p.2.1 = none
  pw : ∀ p ∈ L, ∀ q ∈ L, p.1 ≠ q.1 → p.2.1 ≠ q.2.1
  wy : ∀ p ∈ L, p.2.2.ways.length ≤ 7 ∧ ∀ y ∈ p.2.2.ways, WyGood (toF L) p.2.2 y
/-- slots: 0 _law_bag_here, 1 _law_many, 2 _law_most, 3 _law_heads, 4 _law_name, 5 _law_first -/
abbrev N_l_model : List Str := [Str.ofString "_law_bag_here", Str.ofString "_law_many", Str.ofString "_law_most", Str.ofString "_law_heads", Str.ofString "_law_name", Str.ofString "_law_first"]
theorem sc_l_model : FnScope N_l_model [Str.ofString "_law_bag_here", Str.ofString "_law_many", Str.ofString "_law_most"] (defScope s_l_model) := ⟨rfl, rfl, rfl, by decide +kernel, rfl, by decide +kernel, by decide +kernel⟩
def S_lmodel : Sq := fun vs H Q => ∃ (b : Addr) (many most : Int), vs = [.ref b, .int many, .int most] ∧ Bag H b ∧ 1 ≤ many ∧ many ≤ 3 ∧ 1 ≤ most ∧ most ≤ 5 ∧ ∀ v first F H', Go (some b) H H' → MdAt H' v first F → MdOk first F → Q v H'
theorem r_lmodel (T : Tx K mg) (c_l_take : Cal P w K mg base 1 "_law_take" S_take) (c_l_names : Cal P w K mg base 2 "_law_names" S_names) (c_l_head : Cal P w K mg base 3 "_law_head" S_lhead) (c_l_ways : Cal P w K mg base 5 "_law_ways" S_lways) : FnR P w K mg base CX0 6 (a_l_model K) (sp S_lmodel) := by
  refine fr_of (S := S_lmodel) (N := N_l_model) (f_l_model T) sc_l_model (fun vs H Q h => by first | (obtain ⟨rfl, _⟩ := h; rfl) | (obtain ⟨_, rfl, _⟩ := h; rfl) | (obtain ⟨_, _, rfl, _⟩ := h; rfl) | (obtain ⟨_, _, _, rfl, _⟩ := h; rfl) | (obtain ⟨_, _, _, _, rfl, _⟩ := h; rfl) | (obtain ⟨_, _, _, _, _, rfl, _⟩ := h; rfl) | (obtain ⟨_, _, _, _, _, _, rfl, _⟩ := h; rfl) | (obtain ⟨_, _, _, _, _, _, _, rfl, _⟩ := h; rfl) | (obtain ⟨_, _, _, _, _, _, _, _, rfl, _⟩ := h; rfl) | (obtain ⟨_, _, _, _, _, _, _, _, _, rfl, _⟩ := h; rfl) | (obtain ⟨_, _, _, _, _, _, _, _, _, _, rfl, _⟩ := h; rfl) | (obtain ⟨_, _, _, _, _, _, _, _, _, _, _, rfl, _⟩ := h; rfl) | (obtain ⟨_, _, _, _, _, _, _, _, _, _, _, _, rfl, _⟩ := h; rfl) | (obtain ⟨_, _, _, _, _, _, _, _, _, _, _, _, _, rfl, _⟩ := h; rfl) | (obtain ⟨_, _, _, _, _, _, _, _, _, _, _, _, _, _, rfl, _⟩ := h; rfl) | (obtain ⟨_, _, _, _, _, _, _, _, _, _, _, _, _, _, _, rfl, _⟩ := h; rfl) | (obtain ⟨_, _, _, _, _, _, _, _, _, _, _, _, _, _, _, _, rfl, _⟩ := h; rfl)) (fun _ _ _ _ _ _ us hl => match us, hl with | [_, _, _], _ => rfl) (fun cdv A outer s H vs Q E hr h => ?_)
  obtain ⟨b, many, most, rfl, bag, h1, h2, h3, h4, q⟩ := h
  refine ⟨_, (pss_cons (ps_set (i := 3) sc_l_model.nd rfl (.inl rfl) pe_dnewK)
      (pss_cons (ps_for PassesOwn.never rfl (piList K rfl (pcall c_l_names hr (by decide) rfl (pa_cons (pv 0) (pa_cons (pv 1) pa_nil)))) (pg_name (i := 4) sc_l_model.nd rfl (.inl rfl)) (pss_one (ps_dput (hu_of hr) (pv 3) (pv 4) (pcall c_l_head hr (by decide) rfl (pa_cons (pv 0) pa_nil)) rfl)))
      (pss_cons (ps_for PassesOwn.never rfl (piList K rfl (pe_callB (call_sortedD rfl) rfl (n_sorted T) (by decide +kernel) (pa_cons (pv 3) pa_nil))) (pg_name (i := 4) sc_l_model.nd rfl (.inl rfl)) (pss_one (ps_dput (hu_of hr) (pe_dget (hu_of hr) (pv 3) (pv 4) (fun _ _ => rfl)) pe_str (pcall c_l_ways hr (by decide) rfl (pa_cons (pv 0) (pa_cons (pv 3) (pa_cons (pv 4) (pa_cons (pv 2) pa_nil))))) rfl)))
      (pss_cons (ps_set (i := 5) sc_l_model.nd rfl (.inl rfl) (pe_ix (ixL K rfl) (pe_callB (call_sortedD rfl) rfl (n_sorted T) (by decide +kernel) (pa_cons (pv 3) pa_nil)) (pcall c_l_take hr (by decide) rfl (pa_cons (pv 0) (pa_cons (pe_callB call_lenDR rfl (n_len T) (by decide +kernel) (pa_cons (pv 3) pa_nil)) pa_nil))) (fun _ _ => rfl)))
      (pss_one (ps_ret (pe_fz (pe_disp (pps_cons pe_str (pv 5) (pps_cons pe_str (pe_fz (pv 3)) pps_nil)) (by rfl) (by rfl) (fun z => by cases z) (by decide))))))))), ?_⟩
  intro d hd
  have g0 := (go_bag bag).new (x := .dK []) hd
  refine ⟨_, rfl, _, rfl, b, many, rfl, g0.bag, by omega, h2, fun nv ns H1 g1 ⟨na, nod, nxs, e, hna, pns⟩ nnm nnl nne => ?_⟩
  subst e
  have hdb := (go_bag bag).nb' hd
  have gA := g0.trans g1
  refine ⟨na, rfl, ⟨nxs, .inl (.inr ⟨_, hna⟩)⟩, ?_⟩
  refine for_d (wd_list pns) (fun (dn : List Str) (σ : L2.St) (H' : Hp) => ∃ y4, σ = [some (V.ref b), some (V.int many), some (V.int most), some (V.ref d), y4, none] ∧ Go (some b) H H' ∧ Keep H1 H' ∧ ∃ (kvs : List (Key × V)) (L : HdL), H' d = some (.dK kvs) ∧ DicP rHL H' kvs L ∧ LOk H d L ∧ L.length ≤ dn.length ∧ (dn ≠ [] → L ≠ []) ∧ ∀ p ∈ L, p.2.2.ways = []) ?_ ?_ ?_ ?_
  · exact ⟨none, rfl, gA, Keep.refl _, [], [], g1.own hdb upd_same, .nil, ⟨List.nodup_nil, fun x hx => absurd hx (List.not_mem_nil), fun x hx => absurd hx (List.not_mem_nil), fun x hx => absurd hx (List.not_mem_nil), fun x hx => absurd hx (List.not_mem_nil), fun x hx => absurd hx (List.not_mem_nil), fun x hx => absurd hx (List.not_mem_nil)⟩, Nat.le_refl _, fun z => absurd rfl z, fun x hx => absurd hx (List.not_mem_nil)⟩
  · rintro dn σ H' ⟨_, _, _, k, _⟩
    exact .inl (.inr ⟨_, k _ _ trivial hna⟩)
  · rintro dn x rr v σ H2 H' el ⟨y4, rfl, g, k, kvs, L, hdk, dp, lok, hl, hne, hw0⟩ ⟨rfl, rfl⟩
    have hx : IsNm x := nnm x (by rw [el]; simp)
    have hdn : dn.length < 3 := by
      have := congrArg List.length el
      rw [List.length_append, List.length_cons] at this
      omega
    refine ⟨_, rfl, b, rfl, g.bag, fun a h H3 g3 han hu hok hw => ?_⟩
    have hd3 := g3.own hdb hdk
    have dp3 := hl_go g3 dp
    refine ⟨_, rfl, _, rfl, d, _, rfl, .inl ⟨kvs, Sum.inr x, hd3, rfl, by rw [dp.len]; exact big (by omega), rfl⟩, ?_⟩
    have had : a ≠ d := fun z => by rw [z, hdk] at han; cases han
    have k3 : Keep H3 (upd H3 d (.dK (putK kvs (Sum.inr x) (.ref a)))) := kp_mut hd3 (fun z => z)
    have hold : ∀ p ∈ L, ∃ o, H' p.2.1 = some o := fun p hp => by
      obtain ⟨kv, hkv, e1, e2, e3⟩ := pf_mem2 dp p hp
      obtain ⟨o, e, _⟩ := e3
      exact ⟨_, e⟩
    refine ⟨_, rfl, (g.trans g3).mut hd (fun od u z => by rw [hd3] at z; cases z), (k.trans g3.keep).trans k3, _, put L x (a, h), upd_same, ?_, ?_, ?_, ?_, ?_⟩
    · have dp4 : DicP rHL (upd H3 d (.dK (putK kvs (Sum.inr x) (.ref a)))) kvs L := pf_imp2 dp3 fun kv p hp q => ⟨q.1, q.2.1, q.2.2.upd (lok.off p hp) hd3 (fun z => z)⟩
      exact DicP.put dp4 ⟨rfl, hu.upd had hd3 (fun z => z)⟩
    · refine ⟨nd_put lok.nd, fun y hy => ?_, fun p hp => ?_, fun p hp => ?_, fun p hp => ?_, fun p hp q hq ne => ?_, fun p hp => ?_⟩
      · rcases mem_keys_put.mp hy with rfl | hy
        · exact hx
        · exact lok.nm y hy
      · rcases put_mem hp with rfl | hp
        · exact hok
        · exact lok.ok p hp
      · rcases put_mem hp with rfl | hp
        · exact had
        · exact lok.off p hp
      · rcases put_mem hp with rfl | hp
        · exact g.free han
        · exact lok.fr p hp
      · rcases put_mem hp with rfl | hp
        · rcases put_mem hq with rfl | hq
          · exact absurd rfl ne
          · intro z
            obtain ⟨o, e⟩ := hold q hq
            rw [← z, han] at e
            cases e
        · rcases put_mem hq with rfl | hq
          · intro z
            obtain ⟨o, e⟩ := hold p hp
            rw [z, han] at e
            cases e
          · exact lok.pw p hp q hq ne
      · have e : p.2.2.ways = [] := by
          rcases put_mem hp with rfl | hp
          · exact hw
          · exact hw0 p hp
        rw [e]
        exact ⟨by decide, fun y hy => absurd hy (List.not_mem_nil)⟩
    · have := put_len (l := L) (k := x) (v := (a, h))
      rw [List.length_append]
      simp only [List.length_singleton]
      omega
    · intro _ z
      have : x ∈ keys (put L x (a, h)) := mem_keys_put.mpr (.inl rfl)
      rw [z] at this
      cases this
    · intro p hp
      rcases put_mem hp with rfl | hp
      · exact hw
      · exact hw0 p hp
  · rintro σ H2 ⟨y4, rfl, g, k, kvs, L, hdk, dp, lok, hl, hne, hw0⟩
    have hLn : L ≠ [] := hne (nne (by omega))
    have hokF : ∀ {L : HdL}, LOk H d L → L.length ≤ 3 → L ≠ [] → HdsOk (toF L) := fun {L} lok hl hn => ⟨by rw [toF_keys]; exact lok.nd, by unfold toF; rw [List.length_map]; exact hl, fun z => hn (by unfold toF at z; exact List.map_eq_nil_iff.mp z), by rw [toF_keys]; exact lok.nm, fun x hx => by
      obtain ⟨p, hp, rfl⟩ := List.mem_map.mp hx
      exact lok.ok p hp⟩
    have dk : kvs.map (·.1) = (keys L).map Sum.inr := dp.keys
    dsimp only
    refine ⟨_, rfl, d, kvs, keys L, rfl, .inl hdk, dk, by unfold keys; rw [List.length_map]; omega, fun ys p pm so hp => ?_⟩
    have gp := g.new (x := .lst (ys.map V.str)) hp
    have gop := (go_bag g.bag).new (x := .lst (ys.map V.str)) hp
    have hpb := (go_bag g.bag).nb' hp
    have hpd : p ≠ d := fun z => by rw [z, hdk] at hp; cases hp
    have hp0 : (upd H2 p (.lst (ys.map V.str))) p = some (.lst (ys.map V.str)) := upd_same
    have hd0 : (upd H2 p (.lst (ys.map V.str))) d = some (.dK kvs) := same_new hp _ _ hdk
    have dp0 := hl_go (m := none) (H' := upd H2 p (.lst (ys.map V.str))) (show Same _ _ from same_new hp) dp
    generalize upd H2 p (.lst (ys.map V.str)) = H3 at gp hp0 hd0 dp0 ⊢
    refine ⟨p, rfl, ⟨_, .inl (.inl hp0)⟩, ?_⟩
    refine for_d (wd_list (of_strs (H := H) ys)) (fun (dn : List Str) (σ : L2.St) (H' : Hp) => ∃ y4, σ = [some (V.ref b), some (V.int many), some (V.int most), some (V.ref d), y4, none] ∧ Go (some b) H H' ∧ H' p = some (.lst (ys.map V.str)) ∧ H' d = some (.dK kvs) ∧ ∃ (L' : HdL), DicP rHL H' kvs L' ∧ LOk H d L' ∧ keys L' = keys L) ?_ ?_ ?_ ?_
    · exact ⟨_, rfl, gp, hp0, hd0, L, dp0, lok, rfl⟩
    · rintro dn σ H' ⟨_, _, _, h, _⟩
      exact .inl (.inl h)
    · rintro dn x rr v σ H4 H' el ⟨y4, rfl, g4, hp4, hd4, L', dp4, lok4, ek⟩ ⟨rfl, rfl⟩
      have exk : x ∈ keys L' := by rw [ek]; exact pm.mem_iff.mp (by rw [el]; simp)
      obtain ⟨⟨a, h⟩, hlx⟩ := lk_some exk
      have hmem : (x, (a, h)) ∈ L' := lk_mem hlx
      obtain ⟨u, eu, eu2, hu⟩ := dp4.some hlx
      subst eu2
      have hlen : L'.length = L.length := by
        have := congrArg List.length ek
        unfold keys at this
        rwa [List.length_map, List.length_map] at this
      have okF := hokF lok4 (by omega) (fun z => by rw [z] at hmem; cases hmem)
      have hlF : lk (toF L') x = some h := by rw [toF_lk, hlx]; rfl
      refine ⟨_, rfl, _, rfl, _, rfl, _, rfl, b, _, x, most, toF L', h, rfl, g4.bag, ⟨d, kvs, rfl, .inl hd4, hl_at dp4⟩, okF, hlF, h3, h4, fun wv ws H5 g5 hws hwl hwg => ?_⟩
      obtain ⟨akvs, ea, fa⟩ := hu.go g5
      have hd5 := g5.own hdb hd4
      have hp5 := g5.own hpb hp4
      have had : a ≠ d := lok4.off _ hmem
      have hpa : p ≠ a := fun z => by rw [z, ea] at hp5; cases hp5
      have kE : Keep H5 (upd H5 a (.dK (putK akvs (Sum.inr "ways") wv))) := kp_mut ea (fun z => z)
      refine ⟨_, rfl, _, rfl, d, _, rfl, dgR (.inl hd5) eu, a, _, rfl, .inl ⟨akvs, Sum.inr "ways", ea, rfl, ?_, rfl⟩, ?_⟩
      · obtain ⟨_, _, _, _, hl5, _⟩ := fa
        exact big (by omega)
      have lkS : ∀ f g, lk (toF L') f = some g → ∃ g', lk (toF (setW L' x ws)) f = some g' ∧ g'.kinds = g.kinds ∧ g'.params = g.params ∧ g'.results = g.results := fun f g e => by
        rw [toF_lk] at e ⊢
        rw [setW_lk]
        obtain ⟨p0, e1, rfl⟩ := Option.map_eq_some_iff.mp e
        rw [e1]
        refine ⟨(if f = x then (p0.1, { p0.2 with ways := ws }) else p0).2, rfl, ?_, ?_, ?_⟩ <;> split <;> rfl
      have same : ∀ p' ∈ L', p'.1 = x → p' = (x, (a, h)) := fun p' hp' e => by
        have z1 := lk_of_mem (k := p'.1) (v := p'.2) lok4.nd hp'
        rw [e, hlx] at z1
        rw [show p' = (p'.1, p'.2) from rfl, e, ← Option.some.inj z1]
      refine ⟨_, rfl, (g4.trans g5).mut (lok4.fr _ hmem) (fun od u z => by rw [ea] at z; cases z), by rw [upd_ne hpa]; exact hp5, by rw [upd_ne had.symm]; exact hd5, setW L' x ws, ?_, ?_, by rw [setW_keys]; exact ek⟩
      · have := Paired.map2 (G := fun (kv : Key × V) (p : Str × (Addr × Hd)) => kv.1 = Sum.inr p.1 ∧ rHL (upd H5 a (.dK (putK akvs (Sum.inr "ways") wv))) kv.2 p.2) (f := fun x => x) (g := fun p : Str × (Addr × Hd) => if p.1 = x then (p.1, p.2.1, { p.2.2 with ways := ws }) else p) (pf_mem (hl_go g5 dp4)) fun kv p' q => by
          by_cases e : p'.1 = x
          · rw [if_pos e]
            have := same p' q.2.2 e
            subst this
            exact ⟨q.1.1, q.1.2.1, _, upd_same, (fa.mono kE).ways (mo kE hws)⟩
          · rw [if_neg e]
            exact ⟨q.1.1, q.1.2.1, q.1.2.2.upd (lok4.pw p' q.2.2 _ hmem e) ea (fun z => z)⟩
        rw [List.map_id'' (fun _ => rfl)] at this
        exact this
      · have mm : ∀ p' ∈ setW L' x ws, ∃ p0 ∈ L', p'.1 = p0.1 ∧ p'.2.1 = p0.2.1 ∧ p'.2.2.kinds = p0.2.2.kinds ∧ p'.2.2.params = p0.2.2.params ∧ p'.2.2.results = p0.2.2.results ∧ p'.2.2.size = p0.2.2.size ∧ ((p0.1 = x ∧ p'.2.2.ways = ws) ∨ p'.2.2.ways = p0.2.2.ways) := fun p' hp' => by
          obtain ⟨p0, h0, e⟩ := List.mem_map.mp hp'
          refine ⟨p0, h0, ?_⟩
          by_cases e1 : p0.1 = x
          · rw [if_pos e1] at e
            subst e
            exact ⟨rfl, rfl, rfl, rfl, rfl, rfl, .inl ⟨e1, rfl⟩⟩
          · rw [if_neg e1] at e
            subst e
            exact ⟨rfl, rfl, rfl, rfl, rfl, rfl, .inr rfl⟩
        refine ⟨by rw [setW_keys]; exact lok4.nd, by rw [setW_keys]; exact lok4.nm, fun p' hp' => ?_, fun p' hp' => ?_, fun p' hp' => ?_, fun p' hp' q' hq' ne => ?_, fun p' hp' => ?_⟩
        · obtain ⟨p0, h0, _, _, e1, e2, e3, e4, _⟩ := mm p' hp'
          obtain ⟨o1, o2, o3, o4⟩ := lok4.ok p0 h0
          exact ⟨by rw [e1]; exact o1, by rw [e1, e2]; exact o2, by rw [e1, e3]; exact o3, by rw [e4]; exact o4⟩
        · obtain ⟨p0, h0, _, e, _⟩ := mm p' hp'
          rw [e]; exact lok4.off p0 h0
        · obtain ⟨p0, h0, _, e, _⟩ := mm p' hp'
          rw [e]; exact lok4.fr p0 h0
        · obtain ⟨p0, h0, e1, e2, _⟩ := mm p' hp'
          obtain ⟨q0, h1, e3, e4, _⟩ := mm q' hq'
          rw [e2, e4]
          exact lok4.pw p0 h0 q0 h1 (by rw [← e1, ← e3]; exact ne)
        · obtain ⟨p0, h0, _, _, e1, _, _, e4, ⟨ex, ew⟩ | ew⟩ := mm p' hp'
          · have := same p0 h0 ex
            subst this
            rw [ew]
            exact ⟨hwl, fun y hy => (hwg y hy).cong lkS e1 e4⟩
          · rw [ew]
            exact ⟨(lok4.wy p0 h0).1, fun y hy => ((lok4.wy p0 h0).2 y hy).cong lkS e1 e4⟩
    · rintro σ H4 ⟨y4, rfl, g4, hp4, hd4, L', dp4, lok4, ek⟩
      have hlen : L'.length = L.length := by
        have := congrArg List.length ek
        unfold keys at this
        rwa [List.length_map, List.length_map] at this
      have hL1 : 1 ≤ L.length := by
        rcases hL : L with _ | ⟨z, r⟩
        · exact absurd hL hLn
        · simp
      have kl : kvs.length = L'.length := dp4.len
      refine ⟨_, rfl, d, kvs, keys L', rfl, .inl hd4, dp4.keys, by unfold keys; rw [List.length_map]; omega, fun zs p2 pm2 so2 hp2 => ?_⟩
      have g5 := g4.new (x := .lst (zs.map V.str)) hp2
      have hzl : zs.length = L'.length := by rw [pm2.length_eq]; unfold keys; rw [List.length_map]
      refine ⟨_, rfl, _, rfl, d, kvs, rfl, .inl (same_new hp2 _ _ hd4), b, _, rfl, g5.bag, by omega, by omega, fun v H5 g6 v0 v1 => ?_⟩
      obtain ⟨x, hx, hat⟩ := at_strs (ys := zs) v0 (by omega)
      refine ⟨_, _, _, _, rfl, rfl, .inl (.inl (g6.own ((go_bag g4.bag).nb' hp2) upd_same)), hat, ?_⟩
      have go5 := ((go_bag g4.bag).new (x := .lst (zs.map V.str)) hp2).trans g6
      have hd5 := go5.own hdb hd4
      have dp5 := hl_go go5 dp4
      have g7 := g4.trans go5
      intro m hm
      have g8 := g7.new (x := .dK []) hm
      have hmd : d ≠ m := fun z => by rw [← z, hd5] at hm; cases hm
      have hd6 : (upd H5 m (.dK [])) d = some (.dK kvs) := same_new hm _ _ hd5
      have hm6 : (upd H5 m (.dK [])) m = some (.dK []) := upd_same
      have dp6 := hl_go (m := none) (H' := upd H5 m (.dK [])) (show Same _ _ from same_new hm) dp5
      have hmn : H m = none := g7.free hm
      generalize upd H5 m (.dK []) = H6 at g8 hd6 hm6 dp6 ⊢
      refine ⟨_, rfl, _, rfl, d, _, rfl, hd6, trivial, fun od => ?_⟩
      have g9 : Go (some b) H (upd H6 d (.frz od (.dK kvs))) := g8.mut hd (fun od u z => by rw [hd6] at z; cases z)
      have hm7 : (upd H6 d (.frz od (.dK kvs))) m = some (.dK []) := by rw [upd_ne hmd.symm]; exact hm6
      refine ⟨hm7, [(Sum.inr ("first" : Str), .str x), (Sum.inr ("procedures" : Str), .ref d)], rfl, by show 2 ≤ 15; decide, m, _, rfl, upd_same, trivial, fun od2 => ?_⟩
      rw [upd_upd]
      have em : mergeK [] [((Sum.inr ("first" : Str) : Key), V.str x), (Sum.inr ("procedures" : Str), .ref d)] = [((Sum.inr ("first" : Str) : Key), V.str x), (Sum.inr ("procedures" : Str), .ref d)] := rfl
      rw [em]
      have g10 := g9.mut (x := .frz od2 (.dK [((Sum.inr ("first" : Str) : Key), V.str x), (Sum.inr ("procedures" : Str), .ref d)])) hmn (fun od u z => by rw [hm7] at z; cases z)
      have dp7 : DicP rHL (upd H6 d (.frz od (.dK kvs))) kvs L' := pf_imp2 dp6 fun kv p hp q => ⟨q.1, q.2.1, q.2.2.upd (lok4.off p hp) hd6 (fun z => z)⟩
      have dp8 : DicP rHL (upd (upd H6 d (.frz od (.dK kvs))) m (.frz od2 (.dK [((Sum.inr ("first" : Str) : Key), V.str x), (Sum.inr ("procedures" : Str), .ref d)]))) kvs L' := pf_imp2 dp7 fun kv p hp q => ⟨q.1, q.2.1, q.2.2.upd (fun z => by
        obtain ⟨_, e, _⟩ := q.2.2
        rw [z, hm7] at e
        cases e
        obtain ⟨_, e2, f2⟩ := (pf_imp2 dp6 fun kv p hp q => q.2.2 : Paired (fun _ p => HdU H6 p.2.1 p.2.2) kvs L') |> fun w => (pf_mem2 w p hp).choose_spec.2
        rw [z, hm6] at e2
        cases e2
        obtain ⟨_, _, _, _, _, n1, _⟩ := f2
        cases n1) hm7 (fun z => z)⟩
      refine q _ x (toF L') _ g10 ⟨m, od2, _, .ref d, rfl, upd_same, rfl, rfl, d, od, kvs, rfl, by rw [upd_ne hmd]; exact upd_same, hl_at dp8⟩ ⟨hokF lok4 (by omega) (fun z => by rw [z] at hlen; simp only [List.length_nil] at hlen; omega), by rw [toF_keys]; exact pm2.mem_iff.mp hx, fun y hy => ?_⟩
      obtain ⟨p0, h0, rfl⟩ := List.mem_map.mp hy
      exact lok4.wy p0 h0
end Fp

/-! ## FpGenJ -/
set_option Elab.async false
set_option linter.all false
set_option maxRecDepth 100000
set_option maxHeartbeats 2000000
namespace Fp
open PySem PySem.Spec PyProof.Rows L2
variable {P : Program} {w : World} {K : PySem.W.Frag} {mg : Str → Option Value} {base : Heap}
/-! ### from the model to the program -/
def prH (h : Hd) : Pr := ⟨sortK h.kinds, h.params, h.results, h.size, h.ways⟩
def pgF (F : Hds) : Pg := F.map fun p => (p.1, prH p.2)
theorem off_same {x dx : Addr} {o o' : HO} {H H' : Hp} (h1 : H x = none) (h2 : H dx = none) (f : Off x dx (upd (upd H dx o) x o') H') : Same H H' := fun a u e => by
  have n1 : a ≠ x := fun z => by rw [z, h1] at e; cases e
  have n2 : a ≠ dx := fun z => by rw [z, h2] at e; cases e
  exact f a u n1 n2 (by rw [upd_ne n1, upd_ne n2]; exact e)
/-- slots: 0 _law_head_here -/
abbrev N_l_procedure : List Str := [Str.ofString "_law_head_here"]
theorem sc_l_procedure : FnScope N_l_procedure [Str.ofString "_law_head_here"] (defScope s_l_procedure) := ⟨rfl, rfl, rfl, by decide +kernel, rfl, by decide +kernel, by decide +kernel⟩
def S_lprocedure (K : PySem.W.Frag) : Sq := fun vs H Q => ∃ (v : V) (h : Hd), vs = [v] ∧ HdAt H v h ∧ HdOk h ∧ OkPr (prH h) ∧ ∀ v' H', Same H H' → rPr K H' v' (prH h) → Q v' H'
theorem r_lprocedure (T : Tx K mg) (c_Procedure : Mak P w K mg base 8 "Procedure" (cP K) (S_Procedure_init K)) : FnR P w K mg base CX0 10 (a_l_procedure K) (sp (S_lprocedure K)) := by
  refine fr_of (S := (S_lprocedure K)) (N := N_l_procedure) (f_l_procedure T) sc_l_procedure (fun vs H Q h => by first | (obtain ⟨rfl, _⟩ := h; rfl) | (obtain ⟨_, rfl, _⟩ := h; rfl) | (obtain ⟨_, _, rfl, _⟩ := h; rfl) | (obtain ⟨_, _, _, rfl, _⟩ := h; rfl) | (obtain ⟨_, _, _, _, rfl, _⟩ := h; rfl) | (obtain ⟨_, _, _, _, _, rfl, _⟩ := h; rfl) | (obtain ⟨_, _, _, _, _, _, rfl, _⟩ := h; rfl) | (obtain ⟨_, _, _, _, _, _, _, rfl, _⟩ := h; rfl) | (obtain ⟨_, _, _, _, _, _, _, _, rfl, _⟩ := h; rfl) | (obtain ⟨_, _, _, _, _, _, _, _, _, rfl, _⟩ := h; rfl) | (obtain ⟨_, _, _, _, _, _, _, _, _, _, rfl, _⟩ := h; rfl) | (obtain ⟨_, _, _, _, _, _, _, _, _, _, _, rfl, _⟩ := h; rfl) | (obtain ⟨_, _, _, _, _, _, _, _, _, _, _, _, rfl, _⟩ := h; rfl) | (obtain ⟨_, _, _, _, _, _, _, _, _, _, _, _, _, rfl, _⟩ := h; rfl) | (obtain ⟨_, _, _, _, _, _, _, _, _, _, _, _, _, _, rfl, _⟩ := h; rfl) | (obtain ⟨_, _, _, _, _, _, _, _, _, _, _, _, _, _, _, rfl, _⟩ := h; rfl) | (obtain ⟨_, _, _, _, _, _, _, _, _, _, _, _, _, _, _, _, rfl, _⟩ := h; rfl)) (fun _ _ _ _ _ _ us hl => match us, hl with | [_], _ => rfl) (fun cdv A outer s H vs Q E hr h => ?_)
  obtain ⟨v, h, rfl, ⟨a, rfl, hA⟩, hok, okp, q⟩ := h
  obtain ⟨kvs, kv, p1v, rv, wv, ho, hol, ek, rk, ep, rp, er, rr, es, ew, rw_⟩ := hA.ex
  refine ⟨_, (pss_one (ps_ret (pmake c_Procedure hr (by decide) rfl (pa_cons (pe_dget (hu_of hr) (pv 0) pe_str (fun _ _ => rfl)) (pa_cons (pe_callTy (cLst K rfl) rfl (n_list T) (by decide +kernel) (pa_cons (pe_dget (hu_of hr) (pv 0) pe_str (fun _ _ => rfl)) pa_nil)) (pa_cons (pe_dget (hu_of hr) (pv 0) pe_str (fun _ _ => rfl)) (pa_cons (pe_dget (hu_of hr) (pv 0) pe_str (fun _ _ => rfl)) (pa_cons (pe_callTy (cLst K rfl) rfl (n_list T) (by decide +kernel) (pa_cons (pe_dget (hu_of hr) (pv 0) pe_str (fun _ _ => rfl)) pa_nil)) pa_nil)))))))), ?_⟩
  obtain ⟨pa, pxs, rfl, hpa, ppx⟩ := rp
  obtain ⟨wa, wod, wxs, rfl, hwa, pwx⟩ := rw_
  have rd : ∀ {H' : Hp}, Same H H' → Rd H' a (.dK kvs) := fun s => rd_go (m := none) s ho
  refine ⟨_, rfl, a, _, rfl, dgR ho ek, _, rfl, a, _, rfl, dgR ho ep, pa, pxs, rfl, .inr (.inl (.inl hpa)), fun l hl => ?_⟩
  have s1 : Same H (upd H l (.lst pxs)) := same_new hl
  have e1 : (upd H l (.lst pxs)) l = some (.lst pxs) := upd_same
  generalize upd H l (.lst pxs) = H1 at s1 e1 ⊢
  refine ⟨_, rfl, a, _, rfl, dgR (rd s1) er, _, rfl, a, _, rfl, dgR (rd s1) es, _, rfl, a, _, rfl, dgR (rd s1) ew, wa, wxs, rfl, .inl (.inl (.inr ⟨_, s1 _ _ hwa⟩)), fun l2 hl2 => ?_⟩
  have s2 : Same H1 (upd H1 l2 (.lst wxs)) := same_new hl2
  have e2 : (upd H1 l2 (.lst wxs)) l2 = some (.lst wxs) := upd_same
  generalize upd H1 l2 (.lst wxs) = H2 at s2 e2 ⊢
  intro x dx hx hdx hne
  have s3 : Same H2 (upd (upd H2 dx (.own x)) x (.ins (cP K) dx [])) := (same_new hdx).trans (same_new (by rw [upd_ne hne.symm]; exact hx))
  have kA : Keep H _ := kp_of ((s1.trans s2).trans s3)
  refine ⟨x, dx, l, l2, kv, rv, h.kinds, h.params, h.results, h.size, h.ways, wxs, rfl, upd_same, hne, by rw [upd_ne hne]; exact upd_same, mo kA rk, hok.ks.wf, by rw [s3 _ _ (s2 _ _ e1), strs_of ppx], mo kA rr, s3 _ _ e2, mos (R := rWy) kA pwx, okp, fun H' off pat => ⟨rfl, q _ _ ((s1.trans s2).trans (off_same hx hdx off)) ⟨x, rfl, pat⟩⟩⟩
end Fp

/-! ## FpMdl -/
set_option Elab.async false
set_option linter.all false
set_option maxRecDepth 100000
set_option maxHeartbeats 2000000
namespace Fp
open PySem PySem.Spec PyProof.Rows L2
/-! ### a drawn model's program is in order (plain) -/
theorem lk_self {α : Type} {f : Str → α} : ∀ {l : List Str} {x : Str}, x ∈ l → lk (l.map fun y => (y, f y)) x = some (f x)
  | y :: r, x, h => by
    show (if y = x then some (f y) else lk (r.map fun y => (y, f y)) x) = _
    by_cases e : y = x
    · rw [if_pos e, e]
    · rw [if_neg e]
      rcases List.mem_cons.mp h with z | h
      · exact absurd z.symm e
      · exact lk_self h
theorem sortK_in {ks : List (Str × Str)} {x : Str} (h : x ∈ keys ks) : kindIn (sortK ks) x = kindIn ks x := by
  show (lk (sortK ks) x).getD e0 = _
  unfold sortK
  rw [lk_self (mem_srt.mpr h)]
  rfl
theorem sortK_mem {ks : List (Str × Str)} {x : Str} : x ∈ keys (sortK ks) ↔ x ∈ keys ks := by rw [sortK_keys]; exact mem_srt
theorem sortK_kd {ks : List (Str × Str)} {x : Str} (h : x = e0 ∨ x ∈ keys ks) : kd (sortK ks) x = kd ks x := by
  unfold kd
  by_cases e : x = e0
  · rw [if_pos e, if_pos e]
  · rw [if_neg e, if_neg e, sortK_in (h.resolve_left e)]
theorem smIn_sort {ks : List (Str × Str)} {s : Sm} (h : SmIn (keys ks) s) : SmIn (keys (sortK ks)) s := by
  have nm : ∀ {y}, Nm (keys ks) y → Nm (keys (sortK ks)) y := fun h => h.imp id sortK_mem.mpr
  cases s with
  | skip => trivial
  | sets xs => exact fun x hx => ⟨sortK_mem.mpr (h x hx).1, nm (h x hx).2⟩
  | mx hi x ps => exact ⟨sortK_mem.mpr h.1, fun p hp => nm (h.2 p hp)⟩
  | call f as rs => exact ⟨fun p hp => nm (h.1 p hp), fun x hx => sortK_mem.mpr (h.2 x hx)⟩
theorem kindOk_sort {ks : List (Str × Str)} {s : Sm} (h : SmIn (keys ks) s) (k : KindOk ks s) : KindOk (sortK ks) s := by
  cases s with
  | skip => trivial
  | sets xs => exact fun x hx => by rw [sortK_kd (h x hx).2, sortK_in (h x hx).1]; exact k x hx
  | mx hi x ps => exact ⟨by rw [sortK_in h.1]; exact k.1, fun p hp => by rw [sortK_kd (h.2 p hp), sortK_in h.1]; exact k.2 p hp⟩
  | call f as rs => trivial
theorem sortK_len (ks : List (Str × Str)) : (sortK ks).length = ks.length := by
  unfold sortK
  rw [List.length_map, (srt_perm _).length_eq]
  unfold keys
  rw [List.length_map]
theorem okPr_of {F : Hds} {h : Hd} (ok : HdOk h) (hl : h.ways.length ≤ 7) (hw : ∀ y ∈ h.ways, WyGood F h y) : OkPr (prH h) where
  wk := ⟨by show (keys (sortK h.kinds)).Nodup; rw [sortK_keys]; exact nd_srt ok.ks.nd, fun z => ok.ks.wf.ne (sortK_mem.mp z), by show (sortK h.kinds).length ≤ 8; rw [sortK_len]; have := ok.ks.len; omega⟩
  nm := fun x hx => ok.ks.nm x (sortK_mem.mp hx)
  kk := fun x hx => by
    obtain ⟨y, hy, rfl⟩ := List.mem_map.mp hx
    exact ok.ks.kd (mem_srt.mp hy)
  ps := ⟨ok.ps.1, by have := ok.ps.2.1; show h.params.length ≤ 7; omega, fun x hx => sortK_mem.mpr (ok.ps.2.2 x hx)⟩
  rs := ⟨ok.rs.1, by have := ok.rs.2.1; show h.results.length ≤ 8; omega, fun x hx => sortK_mem.mpr (ok.rs.2.2 x hx)⟩
  sz := ok.sz.1
  wl := by show h.ways.length ≤ 60; omega
  ws := fun x hx => by
    obtain ⟨w1, w2, w3, _⟩ := hw x hx
    exact ⟨w1, w2, w3.syn, smIn_sort w3.sin, kindOk_sort w3.sin w3.kok, w3.few⟩
theorem pgF_keys (F : Hds) : keys (pgF F) = keys F := by unfold keys pgF; rw [List.map_map]; rfl
theorem pgF_lk : ∀ (F : Hds) (k : Str), lk (pgF F) k = (lk F k).map prH
  | [], _ => rfl
  | p :: r, k => by
    show (if p.1 = k then some (prH p.2) else lk (pgF r) k) = Option.map _ (if p.1 = k then some p.2 else lk r k)
    by_cases e : p.1 = k
    · rw [if_pos e, if_pos e]; rfl
    · rw [if_neg e, if_neg e, pgF_lk r k]
theorem fit_sort {h g : Hd} {as : List Part} {rs : List Str} (hg : HdOk g) (sin : SmIn (keys h.kinds) (.call "f" as rs)) (c : ∀ p q : Pr, p.kinds = h.kinds → q.kinds = g.kinds → q.params = g.params → q.results = g.results → CallFit p q as rs) : CallFit (prH h) (prH g) as rs := by
  obtain ⟨c1, c2, c3, c4⟩ := c ⟨h.kinds, [], [], 0, []⟩ ⟨g.kinds, g.params, g.results, 0, []⟩ rfl rfl rfl rfl
  refine ⟨c1, c2, fun x hx => ?_, fun x hx => ?_⟩
  · have z := List.of_mem_zip (show (x.1, x.2) ∈ as.zip g.params from hx)
    show Fit (kd (sortK h.kinds) x.1.1) (kd (sortK g.kinds) x.2)
    rw [sortK_kd (sin.1 _ z.1), sortK_kd (.inr (hg.ps.2.2 _ z.2))]
    exact c3 x hx
  · have z := List.of_mem_zip (show (x.1, x.2) ∈ g.results.zip rs from hx)
    show Fit (kd (sortK g.kinds) x.1) (kd (sortK h.kinds) x.2)
    rw [sortK_kd (.inr (hg.rs.2.2 _ z.1)), sortK_kd (.inr (sin.2 _ z.2))]
    exact c4 x hx
theorem okPg_of {first : Str} {F : Hds} (m : MdOk first F) : OkPg (pgF F) where
  nd := by rw [pgF_keys]; exact m.ok.nd
  len := by unfold pgF; rw [List.length_map]; have := m.ok.len; omega
  ne := fun z => m.ok.ne (List.map_eq_nil_iff.mp z)
  nm := by rw [pgF_keys]; exact m.ok.nm
  pr := fun x hx => by
    obtain ⟨p, hp, rfl⟩ := List.mem_map.mp hx
    exact okPr_of (m.ok.ok p hp) (m.ways p hp).1 (m.ways p hp).2
  cl := fun x hx y hy f as rs e => by
    obtain ⟨p, hp, rfl⟩ := List.mem_map.mp hx
    obtain ⟨_, _, w3, w4⟩ := (m.ways p hp).2 y hy
    obtain ⟨g, hg, c⟩ := w4 f as rs e
    refine ⟨prH g, by rw [pgF_lk, hg]; rfl, fit_sort (m.ok.ok _ (lk_mem hg)) ?_ c⟩
    have := w3.sin
    rw [e] at this
    exact this
theorem okPg_sort {pg : Pg} (ok : OkPg pg) : OkPg (sortG pg) := by
  have at_ : ∀ x ∈ sortG pg, ∃ p, lk pg x.1 = some p ∧ x.2 = p ∧ (x.1, p) ∈ pg := fun x hx => by
    obtain ⟨y, hy, rfl⟩ := List.mem_map.mp hx
    obtain ⟨p, e⟩ := lk_some (mem_srt.mp hy)
    refine ⟨p, e, ?_, lk_mem e⟩
    show prOf pg y = p
    unfold prOf
    rw [e]; rfl
  refine ⟨by rw [sortG_keys]; exact nd_srt ok.nd, ?_, ?_, fun x hx => ok.nm x (mem_srt.mp (by rw [← sortG_keys]; exact hx)), fun x hx => ?_, fun x hx y hy f as rs e => ?_⟩
  · unfold sortG
    rw [List.length_map, (srt_perm _).length_eq]
    unfold keys
    rw [List.length_map]
    exact ok.len
  · intro z
    have h1 := congrArg List.length z
    unfold sortG at h1
    rw [List.length_map, (srt_perm _).length_eq] at h1
    unfold keys at h1
    rw [List.length_map] at h1
    exact ok.ne (List.length_eq_zero_iff.mp h1)
  · obtain ⟨p, _, e, hp⟩ := at_ x hx
    rw [e]; exact ok.pr _ hp
  · obtain ⟨p, _, e2, hp⟩ := at_ x hx
    rw [e2] at hy ⊢
    obtain ⟨q, hq, c⟩ := ok.cl _ hp y hy f as rs e
    refine ⟨q, ?_, c⟩
    unfold sortG
    rw [lk_self (f := prOf pg) (mem_srt.mpr (lk_key hq))]
    unfold prOf
    rw [hq]; rfl
end Fp

/-! ## FpGenK -/
set_option Elab.async false
set_option linter.all false
set_option maxRecDepth 100000
set_option maxHeartbeats 2000000
namespace Fp
open PySem PySem.Spec PyProof.Rows L2
variable {P : Program} {w : World} {K : PySem.W.Frag} {mg : Str → Option Value} {base : Heap}
theorem put_new {α : Type} {l : List (Str × α)} {k : Str} {v : α} (h : k ∉ keys l) : put l k v = l ++ [(k, v)] := by
  unfold put
  rw [lk_none.mpr h]
  rfl
/-! ### the program -/
/-- slots: 0 _law_model_here, 1 _law_made, 2 _law_name -/
abbrev N_l_program : List Str := [Str.ofString "_law_model_here", Str.ofString "_law_made", Str.ofString "_law_name"]
theorem sc_l_program : FnScope N_l_program [Str.ofString "_law_model_here"] (defScope s_l_program) := ⟨rfl, rfl, rfl, by decide +kernel, rfl, by decide +kernel, by decide +kernel⟩
def S_lprogram (K : PySem.W.Frag) : Sq := fun vs H Q => ∃ (v : V) (first : Str) (F : Hds), vs = [v] ∧ MdAt H v first F ∧ MdOk first F ∧ ∀ v' H', Same H H' → rPg K H' v' (first, sortG (pgF F)) → Q v' H'
theorem r_lprogram (T : Tx K mg) (c_l_procedure : Cal P w K mg base 10 "_law_procedure" (S_lprocedure K)) (c_Program : Mak P w K mg base 5 "Program" (cG K) (S_Program_init K)) : FnR P w K mg base CX0 11 (a_l_program K) (sp (S_lprogram K)) := by
  refine fr_of (S := (S_lprogram K)) (N := N_l_program) (f_l_program T) sc_l_program (fun vs H Q h => by first | (obtain ⟨rfl, _⟩ := h; rfl) | (obtain ⟨_, rfl, _⟩ := h; rfl) | (obtain ⟨_, _, rfl, _⟩ := h; rfl) | (obtain ⟨_, _, _, rfl, _⟩ := h; rfl) | (obtain ⟨_, _, _, _, rfl, _⟩ := h; rfl) | (obtain ⟨_, _, _, _, _, rfl, _⟩ := h; rfl) | (obtain ⟨_, _, _, _, _, _, rfl, _⟩ := h; rfl) | (obtain ⟨_, _, _, _, _, _, _, rfl, _⟩ := h; rfl) | (obtain ⟨_, _, _, _, _, _, _, _, rfl, _⟩ := h; rfl) | (obtain ⟨_, _, _, _, _, _, _, _, _, rfl, _⟩ := h; rfl) | (obtain ⟨_, _, _, _, _, _, _, _, _, _, rfl, _⟩ := h; rfl) | (obtain ⟨_, _, _, _, _, _, _, _, _, _, _, rfl, _⟩ := h; rfl) | (obtain ⟨_, _, _, _, _, _, _, _, _, _, _, _, rfl, _⟩ := h; rfl) | (obtain ⟨_, _, _, _, _, _, _, _, _, _, _, _, _, rfl, _⟩ := h; rfl) | (obtain ⟨_, _, _, _, _, _, _, _, _, _, _, _, _, _, rfl, _⟩ := h; rfl) | (obtain ⟨_, _, _, _, _, _, _, _, _, _, _, _, _, _, _, rfl, _⟩ := h; rfl) | (obtain ⟨_, _, _, _, _, _, _, _, _, _, _, _, _, _, _, _, rfl, _⟩ := h; rfl)) (fun _ _ _ _ _ _ us hl => match us, hl with | [_], _ => rfl) (fun cdv A outer s H vs Q E hr h => ?_)
  obtain ⟨v, first, F, rfl, ⟨a, aod, akvs, hv, rfl, ha, ef, ep, ⟨d, od, kvs, rfl, hd, dp⟩⟩, ok, q⟩ := h
  refine ⟨_, (pss_cons (ps_set (i := 1) sc_l_program.nd rfl (.inl rfl) pe_dnewK)
      (pss_cons (ps_for PassesOwn.never rfl (pi_keys (pe_dget (hu_of hr) (pv 0) pe_str (fun _ _ => rfl))) (pg_name (i := 2) sc_l_program.nd rfl (.inl rfl)) (pss_one (ps_dput (hu_of hr) (pv 1) (pv 2) (pcall c_l_procedure hr (by decide) rfl (pa_cons (pe_dget (hu_of hr) (pe_dget (hu_of hr) (pv 0) pe_str (fun _ _ => rfl)) (pv 2) (fun _ _ => rfl)) pa_nil)) rfl)))
      (pss_one (ps_ret (pmake c_Program hr (by decide) rfl (pa_cons (pe_fz (pv 1)) (pa_cons (pe_dget (hu_of hr) (pv 0) pe_str (fun _ _ => rfl)) pa_nil))))))), ?_⟩
  have dgP : ∀ {H' : Hp}, Same H H' → DGet H' a (.str "procedures") (some (.ref d)) := fun s => dgR (.inr ⟨aod, s _ _ ha⟩) ep
  intro m hm
  have s0 : Same H (upd H m (.dK [])) := same_new hm
  have hm0 : (upd H m (.dK [])) m = some (.dK []) := upd_same
  generalize upd H m (.dK []) = H1 at s0 hm0 ⊢
  refine ⟨_, rfl, a, _, rfl, dgP s0, d, od, rfl, .inl ⟨kvs, s0 _ _ hd, ?_⟩⟩
  refine for_d (wd_keys dp) (fun (dn : Hds) (σ : L2.St) (H' : Hp) => ∃ y2, σ = [some (V.ref a), some (V.ref m), y2] ∧ Same H H' ∧ ∃ mk, H' m = some (.dK mk) ∧ DicP (rPr K) H' mk (pgF dn)) ?_ ?_ ?_ ?_
  · exact ⟨none, rfl, s0, [], hm0, .nil⟩
  · rintro dn σ H' ⟨_, _, s, _⟩
    exact s _ _ hd
  · rintro dn x rr v σ H2 H' el ⟨y2, rfl, s, mk, hmk, dpm⟩ ⟨rfl, rfl⟩
    have hx : x ∈ F := by rw [el]; simp
    have hlk : lk F x.1 = some x.2 := lk_of_mem ok.ok.nd hx
    obtain ⟨u, eu, hu⟩ := dp.some hlk
    have hl : dn.length < 8 := by
      have h1 := congrArg List.length el
      rw [List.length_append, List.length_cons] at h1
      have := ok.ok.len
      omega
    refine ⟨_, rfl, a, _, rfl, dgP s, _, rfl, d, _, rfl, dgR (.inr ⟨od, s _ _ hd⟩) eu, u, x.2, rfl, hu.go (m := none) s, ok.ok.ok x hx, okPr_of (ok.ok.ok x hx) (ok.ways x hx).1 (ok.ways x hx).2, fun v' H3 s3 hv' => ?_⟩
    have hm3 := s3 _ _ hmk
    have k3 : Keep H3 (upd H3 m (.dK (putK mk (Sum.inr x.1) v'))) := kp_mut hm3 (fun z => z)
    refine ⟨_, rfl, _, rfl, m, _, rfl, .inl ⟨mk, Sum.inr x.1, hm3, rfl, by rw [dpm.len]; unfold pgF; rw [List.length_map]; exact big (by omega), rfl⟩, ?_⟩
    refine ⟨_, rfl, Same.mut (s.trans s3) hm, _, upd_same, ?_⟩
    have e : pgF (dn ++ [x]) = put (pgF dn) x.1 (prH x.2) := by
      have hnd := ok.ok.nd
      rw [el] at hnd
      have hn : x.1 ∉ keys (pgF dn) := by
        rw [pgF_keys]
        unfold keys at hnd ⊢
        rw [List.map_append, List.map_cons] at hnd
        intro z
        exact (List.nodup_append.mp hnd).2.2 _ z _ List.mem_cons_self rfl
      rw [put_new hn]
      unfold pgF
      rw [List.map_append]
      rfl
    rw [e]
    exact DicP.put (dpm.mono ((kp_of s3).trans k3)) (mo k3 hv')
  · rintro σ H2 ⟨y2, rfl, s, mk, hmk, dpm⟩
    refine ⟨_, rfl, m, _, rfl, hmk, trivial, fun od2 => ?_⟩
    have s4 : Same H (upd H2 m (.frz od2 (.dK mk))) := Same.mut s hm
    have k4 : Keep H2 (upd H2 m (.frz od2 (.dK mk))) := kp_mut hmk (fun z => z)
    have hm4 : (upd H2 m (.frz od2 (.dK mk))) m = some (.frz od2 (.dK mk)) := upd_same
    have dp4 := dpm.mono k4
    generalize upd H2 m (.frz od2 (.dK mk)) = H4 at s4 hm4 dp4 ⊢
    refine ⟨_, rfl, a, _, rfl, dgR (.inr ⟨aod, s4 _ _ ha⟩) ef, fun x dx hx hdx hne => ?_⟩
    have s5 : Same H4 (upd (upd H4 dx (.own x)) x (.ins (cG K) dx [])) := (same_new hdx).trans (same_new (by rw [upd_ne hne.symm]; exact hx))
    have okg := okPg_of ok
    refine ⟨x, dx, .ref m, first, pgF F, rfl, upd_same, hne, by rw [upd_ne hne]; exact upd_same, ⟨m, od2, mk, rfl, s5 _ _ hm4, dp4.mono (kp_of s5)⟩, okg, okPg_sort okg, by rw [pgF_keys]; exact ok.first, fun H' off pat => ⟨rfl, q _ _ (s4.trans (off_same hx hdx off)) ⟨x, rfl, pat⟩⟩⟩
end Fp

/-! ## FpGenL -/
set_option Elab.async false
set_option linter.all false
set_option maxRecDepth 100000
set_option maxHeartbeats 2000000
namespace Fp
open PySem PySem.Spec PyProof.Rows L2
variable {P : Program} {w : World} {K : PySem.W.Frag} {mg : Str → Option Value} {base : Heap}
/-! ### a start -/
theorem p_fst2 : ∀ {cs : List Str} {zs : List Part}, Paired (fun z (t : Part) => t.1 = z) cs zs → keys zs = cs
  | _, _, .nil => rfl
  | _, _, .cons h t => by
    have e := p_fst2 t
    unfold keys at e ⊢
    rw [List.map_cons, e]
    exact congrArg (· :: _) h
/-- slots: 0 _law_bag_here*, 1 _law_names_here, 2 _law_name -/
abbrev N_l_drawn_start : List Str := [Str.ofString "_law_bag_here", Str.ofString "_law_names_here", Str.ofString "_law_name"]
theorem sc_l_drawn_start : FnScope N_l_drawn_start [Str.ofString "_law_bag_here", Str.ofString "_law_names_here"] (defScope s_l_drawn_start) := ⟨rfl, rfl, rfl, by decide +kernel, rfl, by decide +kernel, by decide +kernel⟩
def S_lstart : Sq := fun vs H Q => ∃ (b : Addr) (nv : V) (ns : List Str), vs = [.ref b, nv] ∧ Bag H b ∧ rTup rStr H nv ns ∧ ns.Nodup ∧ ns.length ≤ 60 ∧ ∀ v st H', Go (some b) H H' → rDic rInt H' v st → (keys st).Perm ns → Q v H'
theorem r_lstart (T : Tx K mg) (c_l_mixed : Cal P w K mg base 2 "_law_mixed" S_mixed) (c_l_number : Cal P w K mg base 2 "_law_number" S_number) : FnR P w K mg base CX0 3 (a_l_drawn_start K) (sp S_lstart) := by
  refine fr_of (S := S_lstart) (N := N_l_drawn_start) (f_l_drawn_start T) sc_l_drawn_start (fun vs H Q h => by first | (obtain ⟨rfl, _⟩ := h; rfl) | (obtain ⟨_, rfl, _⟩ := h; rfl) | (obtain ⟨_, _, rfl, _⟩ := h; rfl) | (obtain ⟨_, _, _, rfl, _⟩ := h; rfl) | (obtain ⟨_, _, _, _, rfl, _⟩ := h; rfl) | (obtain ⟨_, _, _, _, _, rfl, _⟩ := h; rfl) | (obtain ⟨_, _, _, _, _, _, rfl, _⟩ := h; rfl) | (obtain ⟨_, _, _, _, _, _, _, rfl, _⟩ := h; rfl) | (obtain ⟨_, _, _, _, _, _, _, _, rfl, _⟩ := h; rfl) | (obtain ⟨_, _, _, _, _, _, _, _, _, rfl, _⟩ := h; rfl) | (obtain ⟨_, _, _, _, _, _, _, _, _, _, rfl, _⟩ := h; rfl) | (obtain ⟨_, _, _, _, _, _, _, _, _, _, _, rfl, _⟩ := h; rfl) | (obtain ⟨_, _, _, _, _, _, _, _, _, _, _, _, rfl, _⟩ := h; rfl) | (obtain ⟨_, _, _, _, _, _, _, _, _, _, _, _, _, rfl, _⟩ := h; rfl) | (obtain ⟨_, _, _, _, _, _, _, _, _, _, _, _, _, _, rfl, _⟩ := h; rfl) | (obtain ⟨_, _, _, _, _, _, _, _, _, _, _, _, _, _, _, rfl, _⟩ := h; rfl) | (obtain ⟨_, _, _, _, _, _, _, _, _, _, _, _, _, _, _, _, rfl, _⟩ := h; rfl)) (fun _ _ _ _ _ _ us hl => match us, hl with | [_, _], _ => rfl) (fun cdv A outer s H vs Q E hr h => ?_)
  obtain ⟨b, nv, ns, rfl, bag, ⟨a, xs, rfl, ha, px⟩, hnd, hl, q⟩ := h
  refine ⟨_, (pss_one (ps_ret (pe_fz (pe_callTy (call_dictP rfl) rfl (n_dict T) (by decide +kernel) (pa_cons (pe_lc (own := [("_law_name", 2)]) (g := gName 2) rfl sc_l_drawn_start.nd (piList K rfl (pcall c_l_mixed hr (by decide) rfl (pa_cons (pv 0) (pa_cons (pe_callTy (cLst K rfl) rfl (n_list T) (by decide +kernel) (pa_cons (pv 1) pa_nil)) pa_nil)))) (blkOk_by (own := [("_law_name", 2)]) (N := N_l_drawn_start) (sc := defScope s_l_drawn_start) (by decide +kernel)) (fun _ _ _ _ _ => (pg_name (i := 2) sc_l_drawn_start.nd rfl (.inl rfl))) (fun _ _ _ _ _ => pts_nil) (fun _ _ _ _ _ => (pe_tup (pa_cons (pv 2) (pa_cons (pcall c_l_number hr (by decide) rfl (pa_cons (pv 0) pa_nil)) pa_nil))))) pa_nil))))), ?_⟩
  refine ⟨_, rfl, _, rfl, a, xs, rfl, .inr (.inl (.inl ha)), fun l hl0 => ?_⟩
  have g1 := (go_bag bag).new (x := .lst xs) hl0
  have e1 : (upd H l (.lst xs)) l = some (.lst (ns.map V.str)) := by rw [upd_same, strs_of px]
  refine ⟨b, l, ns, rfl, g1.bag, (go_bag bag).nb' hl0 b rfl, ⟨_, e1, .inl rfl⟩, by omega, fun v ys H2 g2 pm ⟨y, od, yxs, e, hy, py⟩ => ?_⟩
  subst e
  have gA := g1.trans g2
  refine ⟨y, rfl, ⟨_, .inl (.inr ⟨_, hy⟩)⟩, fun D hD => ?_⟩
  refine lc_r (wd_list py) (some b) rPart (fun z t => t.1 = z) hD (go_bag gA.bag) (fun H' g => .inl (.inr ⟨_, g.keep _ _ trivial hy⟩)) (sz1000 (by have := pm.length_eq; omega)) (fun z v H8 H9 N S hz go y fin => ?_) fun H8 acc zs go hD2 pz pA => ?_
  · obtain ⟨rfl, rfl⟩ := y
    refine ⟨rfl, yes ⟨_, rfl, _, rfl, b, rfl, go.bag, fun i H10 g10 => ⟨ln2, fun t ht => ?_⟩⟩⟩
    exact fin _ _ (z, i) ((show Go (some b) H9 H10 from g10).new ht) rfl ⟨t, _, _, rfl, upd_same, rfl, rfl⟩
  · obtain ⟨ps, eps, hps⟩ := parts_refs (K := K) pz
    have ek := p_fst2 pA
    refine ⟨D, ps, _, rfl, .inl (.inl (by rw [hD2, eps])), hps, fun q1 hq1 => ⟨q1, _, rfl, upd_same, trivial, fun od2 => ?_⟩⟩
    rw [upd_upd]
    refine q _ (mkD zs) _ ((gA.trans go).new hq1) ⟨q1, od2, _, rfl, upd_same, merge_mk _⟩ ?_
    rw [nd_map (by rw [ek]; exact pm.nodup_iff.mpr hnd), ek]
    exact pm
end Fp

/-! ## FpGenM -/
set_option Elab.async false
set_option linter.all false
set_option maxRecDepth 100000
set_option maxHeartbeats 2000000
namespace Fp
open PySem PySem.Spec PyProof.Rows L2
variable {P : Program} {w : World} {K : PySem.W.Frag} {mg : Str → Option Value} {base : Heap}
/-! ### lists of numbers as data -/
theorem lay_ints : ∀ {zs : List Int}, PyData.canLayAll0 (zs.map PyData.int) = true
  | [] => by simp only [List.map_nil, PyData.canLayAll0]
  | z :: r => by
    simp only [List.map_cons, PyData.canLayAll0, PyData.canLay0]
    rw [lay_ints]
    rfl
theorem dep_ints : ∀ {zs : List Int}, PyData.depthAll (zs.map PyData.int) = 0
  | [] => by simp only [List.map_nil, PyData.depthAll]
  | z :: r => by
    simp only [List.map_cons, PyData.depthAll, PyData.depth]
    rw [dep_ints]
    rfl
theorem shp_ints {zs : List Int} : SeqAt.shaped (.list (zs.map PyData.int)) = true := by
  unfold SeqAt.shaped
  simp only [PyData.canLay0, PyData.depth, lay_ints, dep_ints]
  decide
theorem dp_ints {H : Hp} : ∀ {zs : List Int}, DpAll K H (zs.map V.int) (zs.map PyData.int)
  | [] => .nil
  | z :: r => .cons (.int z) dp_ints
theorem eqv_nilI (zs : List Int) : PyData.eqv (.list (zs.map PyData.int)) (.list []) = decide (zs = []) := by
  cases zs with
  | nil => simp [PyData.eqv, PyData.eqvAll]
  | cons z r => simp [PyData.eqv, PyData.eqvAll]
theorem eq_nilI {H : Hp} {p l : Addr} {zs : List Int} {Q : VK} (hp : SqL K H p (zs.map V.int)) (hl : SqL K H l []) (q : Q (.bl (decide (zs = []))) H) : rEqD K (.ref p) (.ref l) H Q := by
  refine ⟨_, _, .lst hp dp_ints, .lst hl .nil, shp_ints, by decide, ?_⟩
  rw [eqv_nilI]
  exact q
theorem ne_nilI {H : Hp} {p l : Addr} {zs : List Int} {Q : VK} (hp : SqL K H p (zs.map V.int)) (hl : SqL K H l []) (q : Q (.bl (!decide (zs = []))) H) : rNeD K (.ref p) (.ref l) H Q := by
  refine ⟨_, _, .lst hp dp_ints, .lst hl .nil, shp_ints, by decide, ?_⟩
  rw [eqv_nilI]
  exact q
/-! ### the program of drawn heads -/
abbrev pgS (F : Hds) : Pg := sortG (pgF F)
theorem pg_lk {F : Hds} {f : Str} {h : Hd} (e : lk F f = some h) : prOf (pgS F) f = prH h := by
  have e2 : lk (pgF F) f = some (prH h) := by rw [pgF_lk, e]; rfl
  have e3 : lk (pgS F) f = some (prOf (pgF F) f) := by
    unfold pgS sortG
    rw [lk_self (f := prOf (pgF F)) (mem_srt.mpr (lk_key e2))]
  rw [prOf_some e3, prOf_some e2]
theorem at_ints {ys : List Int} {v : Int} (h0 : 0 ≤ v) (h1 : v < ys.length) : ∃ x ∈ ys, atI (ys.map V.int) v = some (.int x) := by
  have hv : v.toNat < ys.length := by omega
  refine ⟨ys[v.toNat], List.getElem_mem hv, ?_⟩
  have := atI_nat (j := v.toNat) (xs := ys.map V.int) (by rw [List.getElem?_map, List.getElem?_eq_getElem hv]; rfl)
  rw [Int.toNat_of_nonneg h0] at this
  exact this
/-- the ways that p takes, by their indexes -/
def fitP (ws : List Wy) (p : Wy → Bool) (i : Nat) : Bool := match ws[i]? with
  | some x => p x
  | none => false
def fitL (ws : List Wy) (p : Wy → Bool) (n : Nat) : List Int := ((List.range n).filter (fitP ws p)).map fun i => ((i : Nat) : Int)
theorem fitL_len {ws : List Wy} {p : Wy → Bool} {n : Nat} : (fitL ws p n).length ≤ n := by
  unfold fitL
  rw [List.length_map]
  exact Nat.le_trans (List.length_filter_le _ _) (by rw [List.length_range]; exact Nat.le_refl _)
theorem fitL_at {ws : List Wy} {p : Wy → Bool} {n : Nat} {z : Int} (h : z ∈ fitL ws p n) : ∃ (i : Nat) (x : Wy), z = (i : Int) ∧ i < n ∧ ws[i]? = some x ∧ p x = true := by
  obtain ⟨i, hi, rfl⟩ := List.mem_map.mp h
  obtain ⟨h1, h2⟩ := List.mem_filter.mp hi
  unfold fitP at h2
  cases e : ws[i]? with
  | none => rw [e] at h2; cases h2
  | some x => rw [e] at h2; exact ⟨i, x, rfl, List.mem_range.mp h1, e, h2⟩
theorem wordOf_nc {s : Sm} (h : isCall s = false) : wordOf s ≠ "call" := by
  cases s with
  | skip => exact wo_kc
  | sets xs => exact wo_sc xs
  | mx hi x ps => exact wo_mc hi x ps
  | call f as rs => cases h
/-! ### on and on -/
/-- slots: 0 _law_bag_here, 1 _law_model_here, 2 _law_name, 3 _law_most, 4 _law_head_here*, 5 _law_place*, 6 _law_steps, 7 _law_k, 8 _law_fit, 9 _law_index, 10 _law_begin, 11 _law_goal, 12 _law_statement_here, 13 _law_step, 14 _law_run -/
abbrev N_l_gone_on : List Str := [Str.ofString "_law_bag_here", Str.ofString "_law_model_here", Str.ofString "_law_name", Str.ofString "_law_most", Str.ofString "_law_head_here", Str.ofString "_law_place", Str.ofString "_law_steps", Str.ofString "_law_k", Str.ofString "_law_fit", Str.ofString "_law_index", Str.ofString "_law_begin", Str.ofString "_law_goal", Str.ofString "_law_statement_here", Str.ofString "_law_step", Str.ofString "_law_run"]
theorem sc_l_gone_on : FnScope N_l_gone_on [Str.ofString "_law_bag_here", Str.ofString "_law_model_here", Str.ofString "_law_name", Str.ofString "_law_most"] (defScope s_l_gone_on) := ⟨rfl, rfl, rfl, by decide +kernel, rfl, by decide +kernel, by decide +kernel⟩
def S_gone (n : Nat) : Sq := fun vs H Q => ∃ (b : Addr) (mv : V) (first name : Str) (F : Hds) (most : Nat), vs = [.ref b, mv, .str name, .int (most : Nat)] ∧ Bag H b ∧ MdAt H mv first F ∧ MdOk first F ∧ name ∈ keys F ∧ most < 2 ^ n ∧ most < 100 ∧
  ∀ (t s : Addr) (pl : Int) (xs : List V) (sts : List Step) H', Go (some b) H H' → H' t = some (.tup [.ref s, .int pl]) → H s = none → H' s = some (.lst xs) → Paired (rStep n H') xs sts → (∀ z ∈ sts, WStep (pgS F) n name z) → sts.length ≤ most → Q (.ref t) H'
def S_run (n : Nat) : Sq := fun vs H Q => ∃ (b : Addr) (mv : V) (first name : Str) (F : Hds) (most : Nat), vs = [.ref b, mv, .str name, .int (most : Nat)] ∧ Bag H b ∧ MdAt H mv first F ∧ MdOk first F ∧ name ∈ keys F ∧ most < 2 ^ n ∧ most < 100 ∧
  (∀ H', Go (some b) H H' → Q .non H') ∧ ∀ v sts H', Go (some b) H H' → rLst (rStep n) H' v sts → (∀ z ∈ sts, WStep (pgS F) n name z) → Q v H'
def S_run' : Nat → Sq
  | 0 => fun _ _ _ => False
  | n + 1 => S_run n
theorem r_gone (n : Nat) (T : Tx K mg) (c_l_take : Cal P w K mg base 1 "_law_take" S_take) (c_l_drawn_run : Cal P w K mg base (1 + 2 * n) "_law_drawn_run" (S_run' n)) : FnR P w K mg base CX0 (1 + 2 * n + 1) (a_l_gone_on K) (sp (S_gone n)) := by
  refine fr_of (S := (S_gone n)) (N := N_l_gone_on) (f_l_gone_on T) sc_l_gone_on (fun vs H Q h => by first | (obtain ⟨rfl, _⟩ := h; rfl) | (obtain ⟨_, rfl, _⟩ := h; rfl) | (obtain ⟨_, _, rfl, _⟩ := h; rfl) | (obtain ⟨_, _, _, rfl, _⟩ := h; rfl) | (obtain ⟨_, _, _, _, rfl, _⟩ := h; rfl) | (obtain ⟨_, _, _, _, _, rfl, _⟩ := h; rfl) | (obtain ⟨_, _, _, _, _, _, rfl, _⟩ := h; rfl) | (obtain ⟨_, _, _, _, _, _, _, rfl, _⟩ := h; rfl) | (obtain ⟨_, _, _, _, _, _, _, _, rfl, _⟩ := h; rfl) | (obtain ⟨_, _, _, _, _, _, _, _, _, rfl, _⟩ := h; rfl) | (obtain ⟨_, _, _, _, _, _, _, _, _, _, rfl, _⟩ := h; rfl) | (obtain ⟨_, _, _, _, _, _, _, _, _, _, _, rfl, _⟩ := h; rfl) | (obtain ⟨_, _, _, _, _, _, _, _, _, _, _, _, rfl, _⟩ := h; rfl) | (obtain ⟨_, _, _, _, _, _, _, _, _, _, _, _, _, rfl, _⟩ := h; rfl) | (obtain ⟨_, _, _, _, _, _, _, _, _, _, _, _, _, _, rfl, _⟩ := h; rfl) | (obtain ⟨_, _, _, _, _, _, _, _, _, _, _, _, _, _, _, rfl, _⟩ := h; rfl) | (obtain ⟨_, _, _, _, _, _, _, _, _, _, _, _, _, _, _, _, rfl, _⟩ := h; rfl)) (fun _ _ _ _ _ _ us hl => match us, hl with | [_, _, _, _], _ => rfl) (fun cdv A outer s H vs Q E hr h => ?_)
  obtain ⟨b, mv, first, name, F, most, rfl, bag, hM, mok, hnm, hmost, hm100, q⟩ := h
  obtain ⟨ma, mod, mkvs, hv, rfl, hma, ef, ep, d, od, kvs, rfl, hd, dp⟩ := id hM
  obtain ⟨hd0, hlk⟩ := lk_some hnm
  obtain ⟨hv0, ev0, ha0⟩ := dp.some hlk
  obtain ⟨ha, rfl, hA⟩ := id ha0
  obtain ⟨akvs, kv, pv_, rv, wv, ho, hol, ek, rk, ep', rp, er, rr, es, ew, rw_⟩ := hA.ex
  obtain ⟨wa, wod, wxs, rfl, hwa, pwx⟩ := rw_
  obtain ⟨hwl, hwg⟩ := mok.ways _ (lk_mem hlk)
  have hpg := pg_lk hlk
  have hwxl : wxs.length = hd0.ways.length := Paired.length pwx
  have hwl' : hd0.ways.length ≤ 7 := hwl
  refine ⟨_, (pss_cons (ps_asg (pe_tup (pa_cons (pe_dget (hu_of hr) (pe_dget (hu_of hr) (pv 1) pe_str (fun _ _ => rfl)) (pv 2) (fun _ _ => rfl)) (pa_cons pe_int (pa_cons (pe_lst pa_nil) pa_nil)))) (pgTup (n := 3) K rfl rfl (pgs_cons (pg_name (i := 4) sc_l_gone_on.nd rfl (.inr rfl)) (pgs_cons (pg_name (i := 5) sc_l_gone_on.nd rfl (.inr rfl)) (pgs_cons (pg_name (i := 6) sc_l_gone_on.nd rfl (.inl rfl)) pgs_nil)))))
      (pss_cons (ps_for PassesOwn.never rfl (pi_range1 rfl (n_range T) (pa_cons (pv 3) pa_nil)) (pg_name (i := 7) sc_l_gone_on.nd rfl (.inl rfl)) (pss_cons (ps_setLc (i := 8) (own := [("_law_index", 9)]) (g := gName 9) rfl sc_l_gone_on.nd rfl rfl (sw_true rfl rfl rfl (by decide +kernel)) (pi_range1 rfl (n_range T) (pa_cons (pe_callB (cLen K rfl) rfl (n_len T) (by decide +kernel) (pa_cons (pe_dget (hu_of hr) (pv 4) pe_str (fun _ _ => rfl)) pa_nil)) pa_nil)) (blkOk_by (own := [("_law_index", 9)]) (N := N_l_gone_on) (sc := defScope s_l_gone_on) (by decide +kernel)) (fun _ _ _ _ _ => (pg_name (i := 9) sc_l_gone_on.nd rfl (.inl rfl))) (fun _ _ _ _ _ => (pts_one (pt_cmpR op_eq (pe_ix (ixT K rfl) (pe_ix (ixL K rfl) (pe_dget (hu_of hr) (pv 4) pe_str (fun _ _ => rfl)) (pv 9) (fun _ _ => rfl)) pe_int (fun _ _ => rfl)) (pv 5) (nomark _)))) (fun _ _ _ _ _ => (pv 9)))
        (pss_cons (ps_set (i := 9) sc_l_gone_on.nd rfl (.inl rfl) (pe_ifExp (pt_cmpR (neD K rfl hr.units) (pv 8) (pe_lst pa_nil) (nomark _)) (pe_ix (ixL K rfl) (pv 8) (pcall c_l_take hr (by omega) rfl (pa_cons (pv 0) (pa_cons (pe_callB (cLen K rfl) rfl (n_len T) (by decide +kernel) (pa_cons (pv 8) pa_nil)) pa_nil))) (fun _ _ => rfl)) pe_int))
        (pss_cons (ps_if (pt_cmpR (eqD K rfl hr.units) (pv 8) (pe_lst pa_nil) (nomark _)) (pss_one ps_break) pss_nil)
        (pss_cons (ps_asg (pe_ix (ixL K rfl) (pe_dget (hu_of hr) (pv 4) pe_str (fun _ _ => rfl)) (pv 9) (fun _ _ => rfl)) (pgTup (n := 3) K rfl rfl (pgs_cons (pg_name (i := 10) sc_l_gone_on.nd rfl (.inl rfl)) (pgs_cons (pg_name (i := 11) sc_l_gone_on.nd rfl (.inl rfl)) (pgs_cons (pg_name (i := 12) sc_l_gone_on.nd rfl (.inl rfl)) pgs_nil)))))
        (pss_cons (ps_set (i := 13) sc_l_gone_on.nd rfl (.inl rfl) (pv 9))
        (pss_cons (ps_if (pt_cmpR op_eq (pe_ix (ixT K rfl) (pv 12) pe_int (fun _ _ => rfl)) pe_str (nomark _)) (pss_cons (ps_set (i := 14) sc_l_gone_on.nd rfl (.inl rfl) (pcall c_l_drawn_run hr (by omega) rfl (pa_cons (pv 0) (pa_cons (pv 1) (pa_cons (pe_ix (ixT K rfl) (pv 12) pe_int (fun _ _ => rfl)) (pa_cons (pe_op op_fdivW (pv 3) pe_int) pa_nil))))))
          (pss_cons (ps_if (pt_cmpR op_isN (pv 14) pe_non (nomark _)) (pss_one ps_break) pss_nil)
          (pss_one (ps_set (i := 13) sc_l_gone_on.nd rfl (.inl rfl) (pe_tup (pa_cons pe_str (pa_cons (pv 9) (pa_cons (pv 14) pa_nil)))))))) pss_nil)
        (pss_cons (ps_expr (pe_bm PySem.F.plainAttrs_list PySem.F.slot_list_append PySem.F.type_list_append mt_append (pv 6) (pa_cons (pv 13) pa_nil)))
        (pss_one (ps_set (i := 5) sc_l_gone_on.nd rfl (.inr rfl) (pv 11)))))))))))
      (pss_one (ps_ret (pe_tup (pa_cons (pv 6) (pa_cons (pv 5) pa_nil))))))), ?_⟩
  have hO : ∀ {H' : Hp}, Go (some b) H H' → Rd H' ha (.dK akvs) := fun g => rd_go g ho
  have hW : ∀ {H' : Hp}, Go (some b) H H' → SqL K H' wa wxs := fun g => .inl (.inr ⟨_, g.keep _ _ trivial hwa⟩)
  refine ⟨_, rfl, ma, _, rfl, dgR (.inr ⟨mod, hma⟩) ep, _, rfl, d, _, rfl, dgR (.inr ⟨od, hd⟩) ev0, Nat.zero_le _, fun s hs0 => ⟨ln3, fun t0 ht0 => ?_⟩⟩
  have g0 := ((go_bag bag).new (x := .lst []) hs0).new (x := .tup [V.ref ha, V.int 0, V.ref s]) ht0
  have hs1 : (upd (upd H s (.lst [])) t0 (.tup [V.ref ha, V.int 0, V.ref s])) s = some (.lst []) := same_new ht0 _ _ upd_same
  refine ⟨t0, _, rfl, .inl (.inl upd_same), rfl, _, _, rfl, _, _, rfl, _, _, rfl, rfl, ?_⟩
  generalize upd (upd H s (.lst [])) t0 (.tup [V.ref ha, V.int 0, V.ref s]) = H1 at g0 hs1 ⊢
  have hsb := (go_bag bag).nb' hs0
  have fin : ∀ {pl : Int} {H' : Hp} {acc : List V} {sts : List Step}, Go (some b) H H' → H' s = some (.lst acc) → Paired (rStep n H') acc sts → sts.length ≤ most → (∀ z ∈ sts, WStep (pgS F) n name z) → ∀ t, H' t = none → Q (.ref t) (upd H' t (.tup [.ref s, .int pl])) :=
    fun g hs pp hl hw t ht => q t s _ _ _ _ (g.new ht) upd_same hs0 (same_new ht _ _ hs) (mos (R := rStep n) (kp_new ht) pp) hw hl
  dsimp only
  refine ⟨_, rfl, _, rfl, by omega, by omega, ?_⟩
  refine for_d wd_range (fun (dn : List Nat) (σ : L2.St) (H' : Hp) => ∃ (pl : Int) (y7 y8 y9 y10 y11 y12 y13 y14 : Option V), σ = [some (V.ref b), some (V.ref ma), some (V.str name), some (V.int (most : Nat)), some (V.ref ha), some (V.int pl), some (V.ref s), y7, y8, y9, y10, y11, y12, y13, y14] ∧ Go (some b) H H' ∧
      ∃ (acc : List V) (sts : List Step), H' s = some (.lst acc) ∧ Paired (rStep n H') acc sts ∧ sts.length ≤ dn.length ∧ ∀ z ∈ sts, WStep (pgS F) n name z) ?_ ?_ ?_ ?_
  · exact ⟨0, _, _, _, _, _, _, _, _, rfl, g0, [], [], hs1, .nil, Nat.le_refl _, fun z hz => absurd hz (List.not_mem_nil)⟩
  · intro _ _ _ _; trivial
  · rintro dn i0 rr x σ H2 H' el ⟨pl, y7, y8, y9, y10, y11, y12, y13, y14, rfl, g, acc, sts, hs2, pp, hl, hw⟩ ⟨rfl, rfl⟩
    have hdn : dn.length < most := by
      have := congrArg List.length el
      rw [List.length_append, List.length_cons, List.length_range] at this
      have e : ((most : Nat) : Int).toNat = most := rfl
      omega
    refine ⟨_, rfl, ha, _, rfl, dgR (hO g) ew, _, _, rfl, .inl ⟨_, hW g, rfl⟩, _, rfl, by omega, by omega, fun D hD => ?_⟩
    refine lc_p (wd_range (n := wxs.length)) none rInt (fitP hd0.ways fun y => decide (y.a = pl)) (fun i => ((i : Nat) : Int)) hD (go_refl _) (fun _ _ => trivial) (by rw [List.length_range]; exact sz1000 (by omega)) (fun d2 i r2 v H3 H4 el2 go y fin1 fin2 => ?_) fun H3 acc2 go hD2 pa => ?_
    · obtain ⟨rfl, rfl⟩ := y
      have hi : i < wxs.length := List.mem_range.mp (by rw [el2]; simp)
      have gi := g.same (show Same H' H4 from go)
      obtain ⟨xv, exv⟩ : ∃ xv, wxs[i]? = some xv := ⟨_, List.getElem?_eq_getElem hi⟩
      obtain ⟨xw, exw, hxw⟩ := Paired.at pwx exv
      obtain ⟨xa, xu, rfl, hxa, hxu⟩ := mo gi.keep hxw
      refine ⟨rfl, _, rfl, ha, _, rfl, dgR (hO gi) ew, _, rfl, _, _, _, _, rfl, rfl, hW gi, atI_nat exv, _, _, _, _, rfl, rfl, .inl (.inl hxa), at0, _, rfl, rfl, ?_⟩
      by_cases e : xw.a = pl
      · refine ⟨true, bT (by rw [e]), iteT ⟨_, rfl, fin1 _ _ ?_ (go_refl _) rfl⟩⟩
        unfold fitP
        rw [exw]
        exact decide_eq_true e
      · refine ⟨false, bF (fun z => e (V.int.inj z)), iteF (fin2 _ ?_ (go_refl _))⟩
        unfold fitP
        rw [exw]
        exact decide_eq_false e
    have gA := g.same (show Same H' H3 from go)
    have ea := ints_of pa
    change acc2 = (fitL hd0.ways (fun y => decide (y.a = pl)) wxs.length).map V.int at ea
    subst ea
    have hs3 : H3 s = some (.lst acc) := go _ _ hs2
    have pp3 : Paired (rStep n H3) acc sts := mos (R := rStep n) (kp_of (show Same H' H3 from go)) pp
    have hfl := fitL_len (ws := hd0.ways) (p := fun y => decide (y.a = pl)) (n := wxs.length)
    have hfa := fun z => fitL_at (ws := hd0.ways) (p := fun y => decide (y.a = pl)) (n := wxs.length) (z := z)
    generalize fitL hd0.ways (fun y => decide (y.a = pl)) wxs.length = fit at hfl hfa hD2 ⊢
    have hDb := (go_bag g.bag).nb' hD
    by_cases efit : fit = []
    · -- no way on
      refine ⟨_, rfl, Nat.zero_le _, fun l1 hl1 => ne_nilI (.inl (.inl (same_new hl1 _ _ hD2))) (.inl (.inl upd_same)) ⟨false, nbF efit, iteF ?_⟩⟩
      have s1 : Same H3 (upd H3 l1 (.lst [])) := same_new hl1
      generalize upd H3 l1 (.lst []) = H4 at s1 ⊢
      refine ⟨_, rfl, Nat.zero_le _, fun l2 hl2 => eq_nilI (zs := fit) (.inl (.inl (same_new hl2 _ _ (s1 _ _ hD2)))) (.inl (.inl upd_same)) ⟨true, bT efit, iteT ?_⟩⟩
      have s2 : Same H4 (upd H4 l2 (.lst [])) := same_new hl2
      generalize upd H4 l2 (.lst []) = H5 at s2 ⊢
      have sA := s1.trans s2
      exact ⟨_, rfl, _, rfl, ln2, fun t ht => fin (gA.same sA) (sA _ _ hs3) (mos (R := rStep n) (kp_of sA) pp3) (by omega) hw t ht⟩
    have hf1 : 1 ≤ fit.length := by
      rcases hF : fit with _ | ⟨x, r⟩
      · exact absurd hF efit
      · simp
    refine ⟨_, rfl, Nat.zero_le _, fun l1 hl1 => ne_nilI (.inl (.inl (same_new hl1 _ _ hD2))) (.inl (.inl upd_same)) ⟨true, nbT efit, iteT ?_⟩⟩
    have s1 : Same H3 (upd H3 l1 (.lst [])) := same_new hl1
    generalize upd H3 l1 (.lst []) = H4 at s1 ⊢
    have gB := gA.same s1
    refine ⟨_, rfl, _, rfl, _, rfl, _, _, rfl, .inl ⟨_, .inl (.inl (s1 _ _ hD2)), rfl⟩, b, _, rfl, gB.bag, ?_, ?_, fun v H5 g5 h50 h51 => ?_⟩
    · rw [List.length_map]; omega
    · rw [List.length_map]; omega
    rw [List.length_map] at h51
    obtain ⟨z, hz, hat⟩ := at_ints h50 h51
    obtain ⟨i, xw, rfl, hi, exw, hxp⟩ := hfa z hz
    have gC := gB.trans g5
    have hD5 := g5.own hDb (s1 _ _ hD2)
    have hs5 := g5.own hsb (s1 _ _ hs3)
    have pp5 : Paired (rStep n H5) acc sts := mos (R := rStep n) ((kp_of s1).trans g5.keep) pp3
    refine ⟨_, _, _, _, rfl, rfl, .inl (.inl hD5), hat, ?_⟩
    refine ⟨_, rfl, Nat.zero_le _, fun l2 hl2 => eq_nilI (zs := fit) (.inl (.inl (same_new hl2 _ _ hD5))) (.inl (.inl upd_same)) ⟨false, bF efit, iteF ?_⟩⟩
    have s6 : Same H5 (upd H5 l2 (.lst [])) := same_new hl2
    generalize upd H5 l2 (.lst []) = H6 at s6 ⊢
    have gD := gC.same s6
    have hs6 := s6 _ _ hs5
    have pp6 : Paired (rStep n H6) acc sts := mos (R := rStep n) (kp_of s6) pp5
    obtain ⟨xv, exv, hxw⟩ := Paired.at' pwx exw
    obtain ⟨xa, xu, rfl, hxa, hxu⟩ := mo gD.keep hxw
    refine ⟨_, rfl, ha, _, rfl, dgR (hO gD) ew, _, rfl, _, _, _, _, rfl, rfl, hW gD, atI_nat exv, xa, _, rfl, .inl (.inl hxa), rfl, _, _, rfl, _, _, rfl, _, _, rfl, rfl, _, rfl, ?_⟩
    obtain ⟨sa, srest, rfl, hsa⟩ := hxu.head
    have hpw : (prOf (pgS F) name).ways[i]? = some xw := by rw [hpg]; exact exw
    dsimp only
    refine seq_mk (fun σ' H7 => ∃ (st : Step) (v : V) (y14' : Option V), σ' = [some (V.ref b), some (V.ref ma), some (V.str name), some (V.int (most : Nat)), some (V.ref ha), some (V.int pl), some (V.ref s), some (V.int (i0 : Nat)), some (V.ref D), some (V.int (i : Nat)), some (V.int xw.a), some (V.int xw.b), some (V.ref sa), some v, y14'] ∧ Go (some b) H H7 ∧
      H7 s = some (.lst acc) ∧ Paired (rStep n H7) acc sts ∧ rStep n H7 v st ∧ WStep (pgS F) n name st) ?_ fun rest => ?_
    · rintro σ' H7 ⟨st, v7, y14', rfl, g7, hs7, pp7, hst, hwst⟩
      have k7 : Keep H7 (upd H7 s (.lst (acc ++ [v7]))) := kp_mut hs7 (fun z => z)
      refine ⟨_, rfl, .inl ⟨rfl, _, .inl (.inl hs7)⟩, _, rfl, s, acc, _, rfl, rfl, hs7, by rw [Paired.length pp]; exact big (by omega), _, rfl, ?_⟩
      refine ⟨_, _, _, _, _, _, _, _, _, rfl, g7.mut hs0 (fun od u z => by rw [hs7] at z; cases z), _, sts ++ [st], upd_same, Paired.app (mos (R := rStep n) k7 pp7) (.cons (mo (R := rStep n) k7 hst) .nil), ?_, fun z hz => ?_⟩
      · rw [List.length_append, List.length_append]; simp only [List.length_singleton]; omega
      · rcases List.mem_append.mp hz with h | h
        · exact hw z h
        · rw [List.mem_singleton.mp h]; exact hwst
    · refine ⟨_, rfl, _, _, _, _, rfl, rfl, .inl (.inl hsa), at0, rfl, ?_⟩
      by_cases ec : wordOf xw.s = "call"
      · refine ⟨true, sT ec, iteT ?_⟩
        obtain ⟨f, as, rs, es⟩ : ∃ f as rs, xw.s = .call f as rs := by
          cases e : xw.s with
          | skip => rw [e] at ec; exact absurd ec wo_kc
          | sets xs => rw [e] at ec; exact absurd ec (wo_sc xs)
          | mx hi x ps => rw [e] at ec; exact absurd ec (wo_mc hi x ps)
          | call f as rs => exact ⟨f, as, rs, rfl⟩
        rw [es] at hxu
        obtain ⟨sa', sw, su, e1, hsa', hsw, hsu⟩ := hxu
        cases e1
        obtain ⟨_, _, _, w4⟩ := hwg xw (List.mem_of_getElem? exw)
        obtain ⟨g', hg', _⟩ := w4 f as rs es
        have wd : CDivW ((most : Nat) : Int) 2 := wide_div (b := 62) (by omega) (by omega) (by decide) (by decide)
        have ed : ((most : Nat) : Int) / 2 = ((most / 2 : Nat) : Int) := rfl
        refine ⟨_, rfl, _, rfl, _, rfl, _, _, _, _, rfl, rfl, .inl (.inl hsa'), at1, _, rfl, _, _, rfl, rfl, wd, ?_⟩
        cases n with
        | zero => omega
        | succ n =>
          refine ⟨b, _, first, f, F, most / 2, rfl, gD.bag, hM.go gD, mok, lk_key hg', by rw [Nat.pow_succ] at hmost; omega, by omega, fun H7 g7 => ?_, fun v7 r7 H7 g7 hr7 hw7 => ?_⟩
          · refine ⟨_, rfl, rfl, true, rfl, iteT ?_⟩
            exact ⟨_, rfl, _, rfl, ln2, fun t ht => fin (gD.trans g7) (g7.own hsb hs6) (mos (R := rStep (n + 1)) g7.keep pp6) (by omega) hw t ht⟩
          · obtain ⟨ra, rod, rxs, rfl, hra, prx⟩ := hr7
            refine ⟨_, rfl, rfl, false, rfl, iteF ⟨_, rfl, _, rfl, ln3, fun t ht => ?_⟩⟩
            refine rest _ _ ⟨.call i r7, _, _, rfl, (gD.trans g7).new ht, same_new ht _ _ (g7.own hsb hs6), mos (R := rStep (n + 1)) (g7.keep.trans (kp_new ht)) pp6, ?_, ?_⟩
            · exact ⟨t, ra, rod, rxs, rfl, upd_same, same_new ht _ _ hra, mos (R := rStep n) (kp_new ht) prx⟩
            · exact ⟨xw, f, as, rs, hpw, es, hw7⟩
      · refine ⟨false, sF ec, iteF (rest _ _ ⟨.way i, _, _, rfl, gD, hs6, pp6, ?_, ?_⟩)⟩
        · cases n <;> rfl
        · have hnc : isCall xw.s = false := by
            cases e : xw.s with
            | call f as rs => rw [e] at ec; exact absurd rfl ec
            | _ => rfl
          cases n <;> exact ⟨xw, hpw, hnc⟩
  · rintro σ H2 ⟨pl, y7, y8, y9, y10, y11, y12, y13, y14, rfl, g, acc, sts, hs2, pp, hl, hw⟩
    rw [List.length_range] at hl
    exact ⟨_, rfl, _, rfl, ln2, fun t ht => fin g hs2 pp hl hw t ht⟩
/-- slots: 0 _law_bag_here, 1 _law_model_here, 2 _law_name, 3 _law_most, 4 _law_turn, 5 _law_steps, 6 _law_place -/
abbrev N_l_drawn_run : List Str := [Str.ofString "_law_bag_here", Str.ofString "_law_model_here", Str.ofString "_law_name", Str.ofString "_law_most", Str.ofString "_law_turn", Str.ofString "_law_steps", Str.ofString "_law_place"]
theorem sc_l_drawn_run : FnScope N_l_drawn_run [Str.ofString "_law_bag_here", Str.ofString "_law_model_here", Str.ofString "_law_name", Str.ofString "_law_most"] (defScope s_l_drawn_run) := ⟨rfl, rfl, rfl, by decide +kernel, rfl, by decide +kernel, by decide +kernel⟩
theorem r_run (n : Nat) (T : Tx K mg) (c_l_take : Cal P w K mg base 1 "_law_take" S_take) (c_l_gone_on : Cal P w K mg base (1 + 2 * n + 1) "_law_gone_on" (S_gone n)) : FnR P w K mg base CX0 (1 + 2 * (n + 1)) (a_l_drawn_run K) (sp (S_run n)) := by
  rw [show 1 + 2 * (n + 1) = 2 + 2 * n + 1 by omega]
  refine fr_of (S := (S_run n)) (N := N_l_drawn_run) (f_l_drawn_run T) sc_l_drawn_run (fun vs H Q h => by first | (obtain ⟨rfl, _⟩ := h; rfl) | (obtain ⟨_, rfl, _⟩ := h; rfl) | (obtain ⟨_, _, rfl, _⟩ := h; rfl) | (obtain ⟨_, _, _, rfl, _⟩ := h; rfl) | (obtain ⟨_, _, _, _, rfl, _⟩ := h; rfl) | (obtain ⟨_, _, _, _, _, rfl, _⟩ := h; rfl) | (obtain ⟨_, _, _, _, _, _, rfl, _⟩ := h; rfl) | (obtain ⟨_, _, _, _, _, _, _, rfl, _⟩ := h; rfl) | (obtain ⟨_, _, _, _, _, _, _, _, rfl, _⟩ := h; rfl) | (obtain ⟨_, _, _, _, _, _, _, _, _, rfl, _⟩ := h; rfl) | (obtain ⟨_, _, _, _, _, _, _, _, _, _, rfl, _⟩ := h; rfl) | (obtain ⟨_, _, _, _, _, _, _, _, _, _, _, rfl, _⟩ := h; rfl) | (obtain ⟨_, _, _, _, _, _, _, _, _, _, _, _, rfl, _⟩ := h; rfl) | (obtain ⟨_, _, _, _, _, _, _, _, _, _, _, _, _, rfl, _⟩ := h; rfl) | (obtain ⟨_, _, _, _, _, _, _, _, _, _, _, _, _, _, rfl, _⟩ := h; rfl) | (obtain ⟨_, _, _, _, _, _, _, _, _, _, _, _, _, _, _, rfl, _⟩ := h; rfl) | (obtain ⟨_, _, _, _, _, _, _, _, _, _, _, _, _, _, _, _, rfl, _⟩ := h; rfl)) (fun _ _ _ _ _ _ us hl => match us, hl with | [_, _, _, _], _ => rfl) (fun cdv A outer s H vs Q E hr h => ?_)
  obtain ⟨b, mv, first, name, F, most, rfl, bag, hM, mok, hnm, hmost, hm100, q1, q2⟩ := h
  obtain ⟨ma, mod, mkvs, hv, rfl, hma, ef, ep, d, od, kvs, rfl, hd, dp⟩ := id hM
  obtain ⟨hd0, hlk⟩ := lk_some hnm
  obtain ⟨hv0, ev0, ha0⟩ := dp.some hlk
  obtain ⟨ha, rfl, hA⟩ := id ha0
  obtain ⟨akvs, kv, pv_, rv, wv, ho, hol, ek, rk, ep', rp, er, rr, es, ew, rw_⟩ := hA.ex
  refine ⟨_, (pss_cons (ps_for PassesOwn.never rfl (pi_range1 rfl (n_range T) (pa_cons pe_int pa_nil)) (pg_name (i := 4) sc_l_drawn_run.nd rfl (.inl rfl)) (pss_cons (ps_asg (pcall c_l_gone_on hr (by omega) rfl (pa_cons (pv 0) (pa_cons (pv 1) (pa_cons (pv 2) (pa_cons (pcall c_l_take hr (by omega) rfl (pa_cons (pv 0) (pa_cons (pe_op op_add (pv 3) pe_int) pa_nil))) pa_nil))))) (pgTup (n := 2) K rfl rfl (pgs_cons (pg_name (i := 5) sc_l_drawn_run.nd rfl (.inl rfl)) (pgs_cons (pg_name (i := 6) sc_l_drawn_run.nd rfl (.inl rfl)) pgs_nil))))
        (pss_one (ps_if (pt_cmpR op_eq (pv 6) (pe_op op_sub (pe_dget (hu_of hr) (pe_dget (hu_of hr) (pe_dget (hu_of hr) (pv 1) pe_str (fun _ _ => rfl)) (pv 2) (fun _ _ => rfl)) pe_str (fun _ _ => rfl)) pe_int) (nomark _)) (pss_one (ps_ret (pe_fz (pv 5)))) pss_nil))))
      (pss_one (ps_ret pe_non))), ?_⟩
  refine ⟨_, rfl, by decide, by decide, ?_⟩
  refine for_d wd_range (fun (dn : List Nat) (σ : L2.St) (H' : Hp) => ∃ (y4 y5 y6 : Option V), σ = [some (V.ref b), some (V.ref ma), some (V.str name), some (V.int (most : Nat)), y4, y5, y6] ∧ Go (some b) H H') ?_ ?_ ?_ ?_
  · exact ⟨_, _, _, rfl, go_bag bag⟩
  · intro _ _ _ _; trivial
  · rintro dn i0 rr x σ H2 H' el ⟨y4, y5, y6, rfl, g⟩ ⟨rfl, rfl⟩
    refine ⟨_, rfl, _, rfl, _, rfl, _, rfl, _, rfl, _, _, rfl, rfl, b, _, rfl, g.bag, by omega, by omega, fun v H3 g3 h0 h1 => ?_⟩
    obtain ⟨m, rfl⟩ := Int.eq_ofNat_of_zero_le h0
    have gA := g.trans g3
    have hmm : m ≤ most := by omega
    refine ⟨b, _, first, name, F, m, rfl, gA.bag, hM.go gA, mok, hnm, by omega, by omega, fun t s pl xs sts H4 g4 ht hs0 hs pp hw hl => ?_⟩
    have gB := gA.trans g4
    refine ⟨t, _, rfl, .inl (.inl ht), rfl, _, _, rfl, _, _, rfl, rfl, ?_⟩
    refine ⟨_, rfl, _, rfl, ma, _, rfl, dgR (.inr ⟨mod, gB.keep _ _ trivial hma⟩) ep, _, rfl, d, _, rfl, dgR (.inr ⟨od, gB.keep _ _ trivial hd⟩) ev0, ha, _, rfl, dgR (rd_go gB ho) es, _, _, rfl, rfl, rfl, ?_⟩
    by_cases e : pl = hd0.size - 1
    · refine ⟨true, bT (by rw [e]), iteT ⟨_, rfl, s, _, rfl, hs, trivial, fun od2 => ?_⟩⟩
      have ks : Keep H4 (upd H4 s (.frz od2 (.lst xs))) := kp_mut hs (fun z => z)
      exact q2 _ sts _ (gB.mut (gA.free hs0) (fun od u z => by rw [hs] at z; cases z)) ⟨s, od2, xs, rfl, upd_same, mos (R := rStep n) ks pp⟩ hw
    · exact ⟨false, bF (fun z => e (V.int.inj z)), iteF ⟨_, _, _, rfl, gB⟩⟩
  · rintro σ H2 ⟨y4, y5, y6, rfl, g⟩
    exact q1 _ g
/-- both, at every depth -/
theorem drawn_all (T : Tx K mg) (c_l_take : Cal P w K mg base 1 "_law_take" S_take) : ∀ n, Cal P w K mg base (1 + 2 * n + 1) "_law_gone_on" (S_gone n) ∧ Cal P w K mg base (1 + 2 * (n + 1)) "_law_drawn_run" (S_run n)
  | 0 => by
    have c0 : Cal P w K mg base (1 + 2 * 0) "_law_drawn_run" (S_run' 0) := cal_of (f_l_drawn_run T) (g_l_drawn_run T) fr_no
    have c1 := cal_of (f_l_gone_on T) (g_l_gone_on T) (r_gone 0 T c_l_take c0)
    exact ⟨c1, cal_of (f_l_drawn_run T) (g_l_drawn_run T) (r_run 0 T c_l_take c1)⟩
  | n + 1 => by
    obtain ⟨_, c0⟩ := drawn_all T c_l_take n
    have c1 := cal_of (f_l_gone_on T) (g_l_gone_on T) (r_gone (n + 1) T c_l_take c0)
    exact ⟨c1, cal_of (f_l_drawn_run T) (g_l_drawn_run T) (r_run (n + 1) T c_l_take c1)⟩
end Fp

/-! ## FpGenN -/
set_option Elab.async false
set_option linter.all false
set_option maxRecDepth 100000
set_option maxHeartbeats 2000000
namespace Fp
open PySem PySem.Spec PyProof.Rows L2
variable {P : Program} {w : World} {K : PySem.W.Frag} {mg : Str → Option Value} {base : Heap}
/-! ### a moment is drawn -/
def momL : Mom → Nat
  | .last pre => pre.length
  | .inn pre _ _ => pre.length + 1
/-- slots: 0 _law_bag_here, 1 _law_model_here, 2 _law_name, 3 _law_most, 4 _law_steps, 5 _law_place*, 6 _law_ways_here*, 7 _law_fit, 8 _law_index -/
abbrev N_l_drawn_moment : List Str := [Str.ofString "_law_bag_here", Str.ofString "_law_model_here", Str.ofString "_law_name", Str.ofString "_law_most", Str.ofString "_law_steps", Str.ofString "_law_place", Str.ofString "_law_ways_here", Str.ofString "_law_fit", Str.ofString "_law_index"]
theorem sc_l_drawn_moment : FnScope N_l_drawn_moment [Str.ofString "_law_bag_here", Str.ofString "_law_model_here", Str.ofString "_law_name", Str.ofString "_law_most"] (defScope s_l_drawn_moment) := ⟨rfl, rfl, rfl, by decide +kernel, rfl, by decide +kernel, by decide +kernel⟩
def S_mom (k : Nat) : Sq := fun vs H Q => ∃ (b : Addr) (mv : V) (first name : Str) (F : Hds), vs = [.ref b, mv, .str name, .int (k : Nat)] ∧ Bag H b ∧ MdAt H mv first F ∧ MdOk first F ∧ name ∈ keys F ∧ k ≤ 9 ∧
  ∀ v M H', Go (some b) H H' → rMom 4 H' v M → WMom (pgS F) 4 M name → momL M ≤ 20 → Q v H'
def S_mom' : Nat → Sq
  | 0 => fun _ _ _ => False
  | k + 1 => S_mom k
theorem r_mom (k : Nat) (T : Tx K mg) (c_l_take : Cal P w K mg base 1 "_law_take" S_take) (c_l_gone_on : Cal P w K mg base 10 "_law_gone_on" (S_gone 4)) (c_l_drawn_moment : Cal P w K mg base (10 + k) "_law_drawn_moment" (S_mom' k)) : FnR P w K mg base CX0 (10 + k + 1) (a_l_drawn_moment K) (sp (S_mom k)) := by
  refine fr_of (S := (S_mom k)) (N := N_l_drawn_moment) (f_l_drawn_moment T) sc_l_drawn_moment (fun vs H Q h => by first | (obtain ⟨rfl, _⟩ := h; rfl) | (obtain ⟨_, rfl, _⟩ := h; rfl) | (obtain ⟨_, _, rfl, _⟩ := h; rfl) | (obtain ⟨_, _, _, rfl, _⟩ := h; rfl) | (obtain ⟨_, _, _, _, rfl, _⟩ := h; rfl) | (obtain ⟨_, _, _, _, _, rfl, _⟩ := h; rfl) | (obtain ⟨_, _, _, _, _, _, rfl, _⟩ := h; rfl) | (obtain ⟨_, _, _, _, _, _, _, rfl, _⟩ := h; rfl) | (obtain ⟨_, _, _, _, _, _, _, _, rfl, _⟩ := h; rfl) | (obtain ⟨_, _, _, _, _, _, _, _, _, rfl, _⟩ := h; rfl) | (obtain ⟨_, _, _, _, _, _, _, _, _, _, rfl, _⟩ := h; rfl) | (obtain ⟨_, _, _, _, _, _, _, _, _, _, _, rfl, _⟩ := h; rfl) | (obtain ⟨_, _, _, _, _, _, _, _, _, _, _, _, rfl, _⟩ := h; rfl) | (obtain ⟨_, _, _, _, _, _, _, _, _, _, _, _, _, rfl, _⟩ := h; rfl) | (obtain ⟨_, _, _, _, _, _, _, _, _, _, _, _, _, _, rfl, _⟩ := h; rfl) | (obtain ⟨_, _, _, _, _, _, _, _, _, _, _, _, _, _, _, rfl, _⟩ := h; rfl) | (obtain ⟨_, _, _, _, _, _, _, _, _, _, _, _, _, _, _, _, rfl, _⟩ := h; rfl)) (fun _ _ _ _ _ _ us hl => match us, hl with | [_, _, _, _], _ => rfl) (fun cdv A outer s H vs Q E hr h => ?_)
  obtain ⟨b, mv, first, name, F, rfl, bag, hM, mok, hnm, hk9, q⟩ := h
  obtain ⟨ma, mod, mkvs, hv, rfl, hma, ef, ep, d, od, kvs, rfl, hd, dp⟩ := id hM
  obtain ⟨hd0, hlk⟩ := lk_some hnm
  obtain ⟨hv0, ev0, ha0⟩ := dp.some hlk
  obtain ⟨ha, rfl, hA⟩ := id ha0
  obtain ⟨akvs, kv, pv_, rv, wv, ho, hol, ek, rk, ep', rp, er, rr, es, ew, rw_⟩ := hA.ex
  obtain ⟨wa, wod, wxs, rfl, hwa, pwx⟩ := rw_
  obtain ⟨hwl, hwg⟩ := mok.ways _ (lk_mem hlk)
  have hpg := pg_lk hlk
  have hwxl : wxs.length = hd0.ways.length := Paired.length pwx
  have hwl' : hd0.ways.length ≤ 7 := hwl
  refine ⟨_, (pss_cons (ps_asg (pcall c_l_gone_on hr (by omega) rfl (pa_cons (pv 0) (pa_cons (pv 1) (pa_cons (pv 2) (pa_cons (pcall c_l_take hr (by omega) rfl (pa_cons (pv 0) (pa_cons (pe_op op_add (pv 3) pe_int) pa_nil))) pa_nil))))) (pgTup (n := 2) K rfl rfl (pgs_cons (pg_name (i := 4) sc_l_drawn_moment.nd rfl (.inl rfl)) (pgs_cons (pg_name (i := 5) sc_l_drawn_moment.nd rfl (.inr rfl)) pgs_nil))))
      (pss_cons (ps_set (i := 6) sc_l_drawn_moment.nd rfl (.inr rfl) (pe_dget (hu_of hr) (pe_dget (hu_of hr) (pe_dget (hu_of hr) (pv 1) pe_str (fun _ _ => rfl)) (pv 2) (fun _ _ => rfl)) pe_str (fun _ _ => rfl)))
      (pss_cons (ps_setLc (i := 7) (own := [("_law_index", 8)]) (g := gName 8) rfl sc_l_drawn_moment.nd rfl rfl (sw_true rfl rfl rfl (by decide +kernel)) (pi_range1 rfl (n_range T) (pa_cons (pe_callB (cLen K rfl) rfl (n_len T) (by decide +kernel) (pa_cons (pv 6) pa_nil)) pa_nil)) (blkOk_by (own := [("_law_index", 8)]) (N := N_l_drawn_moment) (sc := defScope s_l_drawn_moment) (by decide +kernel)) (fun _ _ _ _ _ => (pg_name (i := 8) sc_l_drawn_moment.nd rfl (.inl rfl))) (fun _ _ _ _ _ => (pts_one (PW.pt (pw_and (pt_cmpR op_eq (pe_ix (ixT K rfl) (pe_ix (ixL K rfl) (pv 6) (pv 8) (fun _ _ => rfl)) pe_int (fun _ _ => rfl)) (pv 5) (nomark _)) (pw_and1 (pt_cmpR op_eq (pe_ix (ixT K rfl) (pe_ix (ixT K rfl) (pe_ix (ixL K rfl) (pv 6) (pv 8) (fun _ _ => rfl)) pe_int (fun _ _ => rfl)) pe_int (fun _ _ => rfl)) pe_str (nomark _))))))) (fun _ _ _ _ _ => (pv 8)))
      (pss_cons (ps_if (PW.pt (pw_and (pt_cmpR (neD K rfl hr.units) (pv 7) (pe_lst pa_nil) (nomark _)) (pw_and (pt_cmpR op_gt (pv 3) pe_int (nomark _)) (pw_and1 (pt_cmpR op_eq (pcall c_l_take hr (by omega) rfl (pa_cons (pv 0) (pa_cons pe_int pa_nil))) pe_int (nomark _)))))) (pss_cons (ps_set (i := 8) sc_l_drawn_moment.nd rfl (.inl rfl) (pe_ix (ixL K rfl) (pv 7) (pcall c_l_take hr (by omega) rfl (pa_cons (pv 0) (pa_cons (pe_callB (cLen K rfl) rfl (n_len T) (by decide +kernel) (pa_cons (pv 7) pa_nil)) pa_nil))) (fun _ _ => rfl)))
        (pss_one (ps_ret (pe_fz (pe_op op_cat (pv 4) (pe_lst (pa_cons (pe_tup (pa_cons pe_str (pa_cons (pv 8) (pa_cons (pcall c_l_drawn_moment hr (by omega) rfl (pa_cons (pv 0) (pa_cons (pv 1) (pa_cons (pe_ix (ixT K rfl) (pe_ix (ixT K rfl) (pe_ix (ixL K rfl) (pv 6) (pv 8) (fun _ _ => rfl)) pe_int (fun _ _ => rfl)) pe_int (fun _ _ => rfl)) (pa_cons (pe_op op_sub (pv 3) pe_int) pa_nil))))) pa_nil)))) pa_nil))))))) pss_nil)
      (pss_one (ps_ret (pe_fz (pv 4)))))))), ?_⟩
  have hO : ∀ {H' : Hp}, Go (some b) H H' → Rd H' ha (.dK akvs) := fun g => rd_go g ho
  have hW : ∀ {H' : Hp}, Go (some b) H H' → SqL K H' wa wxs := fun g => .inl (.inr ⟨_, g.keep _ _ trivial hwa⟩)
  refine ⟨_, rfl, _, rfl, _, rfl, _, rfl, _, rfl, _, _, rfl, rfl, b, _, rfl, bag, by omega, by omega, fun v H1 g1 h0 h1 => ?_⟩
  obtain ⟨m, rfl⟩ := Int.eq_ofNat_of_zero_le h0
  refine ⟨b, _, first, name, F, m, rfl, g1.bag, hM.go g1, mok, hnm, by omega, by omega, fun t s pl xs sts H2 g2 ht hs0 hs pp hw hl => ?_⟩
  have g := g1.trans g2
  have hs0' := g1.free hs0
  have hsb := (go_bag bag).nb' hs0'
  refine ⟨t, _, rfl, .inl (.inl ht), rfl, _, _, rfl, _, _, rfl, rfl, ?_⟩
  refine ⟨_, rfl, ma, _, rfl, dgR (.inr ⟨mod, g.keep _ _ trivial hma⟩) ep, _, rfl, d, _, rfl, dgR (.inr ⟨od, g.keep _ _ trivial hd⟩) ev0, ha, _, rfl, dgR (hO g) ew, ?_⟩
  -- the moment ends here
  have fin : ∀ {H3 : Hp}, Go (some b) H2 H3 → ∃ (a : Addr) (u : HO), V.ref s = .ref a ∧ H3 a = some u ∧ Mut (some u) ∧ ∀ od2, Q (V.ref s) (upd H3 a (.frz od2 u)) := fun {H3} g3 => by
    have hs3 := g3.own hsb hs
    refine ⟨s, _, rfl, hs3, trivial, fun od2 => ?_⟩
    have ks : Keep H3 (upd H3 s (.frz od2 (.lst xs))) := kp_mut hs3 (fun z => z)
    exact q _ (.last sts) _ ((g.trans g3).mut hs0' (fun od u z => by rw [hs3] at z; cases z)) ⟨s, od2, xs, rfl, upd_same, mos (R := rStep 4) (g3.keep.trans ks) pp⟩ hw (by show sts.length ≤ 20; omega)
  refine ⟨_, rfl, _, _, rfl, .inl ⟨_, hW g, rfl⟩, _, rfl, by omega, by omega, fun D hD => ?_⟩
  let pw : Wy → Bool := fun y => decide (y.a = pl) && decide (wordOf y.s = "call")
  refine lc_p (wd_range (n := wxs.length)) none rInt (fitP hd0.ways pw) (fun i => ((i : Nat) : Int)) hD (go_refl _) (fun _ _ => trivial) (by rw [List.length_range]; exact sz1000 (by omega)) (fun d2 i r2 v H3 H4 el2 go y fin1 fin2 => ?_) fun H3 acc2 go hD2 pa => ?_
  · obtain ⟨rfl, rfl⟩ := y
    have hi : i < wxs.length := List.mem_range.mp (by rw [el2]; simp)
    have gi := g.same (show Same H2 H4 from go)
    obtain ⟨xv, exv⟩ : ∃ xv, wxs[i]? = some xv := ⟨_, List.getElem?_eq_getElem hi⟩
    obtain ⟨xw, exw, hxw⟩ := Paired.at pwx exv
    obtain ⟨xa, xu, rfl, hxa, hxu⟩ := mo gi.keep hxw
    obtain ⟨sa, srest, rfl, hsa⟩ := hxu.head
    have hfp : fitP hd0.ways pw i = pw xw := by unfold fitP; rw [exw]
    refine ⟨rfl, _, rfl, _, rfl, _, _, _, _, rfl, rfl, hW gi, atI_nat exv, _, _, _, _, rfl, rfl, .inl (.inl hxa), at0, _, rfl, rfl, ?_⟩
    by_cases e : xw.a = pl
    · refine ⟨true, bT (by rw [e]), iteT ?_⟩
      refine ⟨_, rfl, _, rfl, _, _, _, _, rfl, rfl, hW gi, atI_nat exv, _, _, _, _, rfl, rfl, .inl (.inl hxa), at2, _, _, _, _, rfl, rfl, .inl (.inl hsa), at0, rfl, ?_⟩
      by_cases e2 : wordOf xw.s = "call"
      · exact ⟨true, sT e2, iteT ⟨_, rfl, fin1 _ _ (by rw [hfp]; show (decide _ && decide _) = true; rw [decide_eq_true e, decide_eq_true e2]; rfl) (go_refl _) rfl⟩⟩
      · exact ⟨false, sF e2, iteF (fin2 _ (by rw [hfp]; show (decide _ && decide _) = false; rw [decide_eq_false e2, Bool.and_false]) (go_refl _))⟩
    · exact ⟨false, bF (fun z => e (V.int.inj z)), iteF (iteF (fin2 _ (by rw [hfp]; show (decide _ && decide _) = false; rw [decide_eq_false e]; rfl) (go_refl _)))⟩
  have gA := g.same (show Same H2 H3 from go)
  have ea := ints_of pa
  change acc2 = (fitL hd0.ways pw wxs.length).map V.int at ea
  subst ea
  have hfl := fitL_len (ws := hd0.ways) (p := pw) (n := wxs.length)
  have hfa := fun z => fitL_at (ws := hd0.ways) (p := pw) (n := wxs.length) (z := z)
  generalize fitL hd0.ways pw wxs.length = fit at hfl hfa hD2 ⊢
  have go3 : Go (some b) H2 H3 := (go_bag g.bag).same (show Same H2 H3 from go)
  have hDb := (go_bag g.bag).nb' hD
  have stop : ∀ {H4 : Hp}, Go (some b) H3 H4 → ∃ (a : Addr) (u : HO), V.ref s = .ref a ∧ H4 a = some u ∧ Mut (some u) ∧ ∀ od2, Q (V.ref s) (upd H4 a (.frz od2 u)) := fun g4 => fin (go3.trans g4)
  by_cases efit : fit = []
  · refine ⟨_, rfl, Nat.zero_le _, fun l1 hl1 => ne_nilI (.inl (.inl (same_new hl1 _ _ hD2))) (.inl (.inl upd_same)) ⟨false, nbF efit, iteF (iteF ⟨_, rfl, stop ((go_bag gA.bag).new hl1)⟩)⟩⟩
  have hf1 : 1 ≤ fit.length := by
    rcases hF : fit with _ | ⟨x, r⟩
    · exact absurd hF efit
    · simp
  refine ⟨_, rfl, Nat.zero_le _, fun l1 hl1 => ne_nilI (.inl (.inl (same_new hl1 _ _ hD2))) (.inl (.inl upd_same)) ⟨true, nbT efit, iteT ?_⟩⟩
  have gl1 := (go_bag gA.bag).new (x := .lst []) hl1
  have hD4 : (upd H3 l1 (.lst [])) D = _ := same_new hl1 _ _ hD2
  generalize upd H3 l1 (.lst []) = H4 at gl1 hD4 ⊢
  refine ⟨_, rfl, _, _, rfl, rfl, ?_⟩
  cases k with
  | zero => exact ⟨false, bF (by omega), iteF (iteF ⟨_, rfl, stop gl1⟩)⟩
  | succ k =>
    refine ⟨true, bT (by omega), iteT ?_⟩
    refine ⟨_, rfl, b, _, rfl, gl1.bag, by decide, by decide, fun v4 H5 g5 _ _ => ⟨rfl, ?_⟩⟩
    have gl5 := gl1.trans g5
    by_cases e4 : v4 = 0
    · refine ⟨true, bT (by rw [e4]), iteT ?_⟩
      have hD5 := g5.own hDb hD4
      refine ⟨_, rfl, _, rfl, _, rfl, _, _, rfl, .inl ⟨_, .inl (.inl hD5), rfl⟩, b, _, rfl, gl5.bag, ?_, ?_, fun v H6 g6 h50 h51 => ?_⟩
      · rw [List.length_map]; omega
      · rw [List.length_map]; omega
      rw [List.length_map] at h51
      obtain ⟨z, hz, hat⟩ := at_ints h50 h51
      obtain ⟨i, xw, rfl, hi, exw, hxp⟩ := hfa z hz
      have gl6 := gl5.trans g6
      have gB := gA.trans gl6
      have hs6 := gl6.own hsb (go _ _ hs)
      have pp6 : Paired (rStep 4 H6) xs sts := mos (R := rStep 4) (go3.trans gl6).keep pp
      refine ⟨_, _, _, _, rfl, rfl, .inl (.inl (g6.own hDb hD5)), hat, ?_⟩
      obtain ⟨xv, exv, hxw⟩ := Paired.at' pwx exw
      obtain ⟨xa, xu, rfl, hxa, hxu⟩ := mo gB.keep hxw
      have ec : wordOf xw.s = "call" := of_decide_eq_true (Bool.and_eq_true_iff.mp hxp).2
      obtain ⟨f, as, rs, es⟩ : ∃ f as rs, xw.s = .call f as rs := by
        cases e : xw.s with
        | skip => rw [e] at ec; exact absurd ec wo_kc
        | sets xs => rw [e] at ec; exact absurd ec (wo_sc xs)
        | mx hi x ps => rw [e] at ec; exact absurd ec (wo_mc hi x ps)
        | call f as rs => exact ⟨f, as, rs, rfl⟩
      rw [es] at hxu
      obtain ⟨sa, sw, su, rfl, hsa, hsw, hsu⟩ := hxu
      obtain ⟨_, _, _, w4⟩ := hwg xw (List.mem_of_getElem? exw)
      obtain ⟨g', hg', _⟩ := w4 f as rs es
      have hpw : (prOf (pgS F) name).ways[i]? = some xw := by rw [hpg]; exact exw
      have ek1 : (((k + 1 : Nat) : Int) - 1) = ((k : Nat) : Int) := by omega
      refine ⟨_, rfl, _, rfl, _, rfl, _, rfl, _, rfl, _, rfl, _, _, _, _, rfl, rfl, hW gB, atI_nat exv, _, _, _, _, rfl, rfl, .inl (.inl hxa), at2, _, _, _, _, rfl, rfl, .inl (.inl hsa), at1, _, rfl, _, _, rfl, rfl, ?_⟩
      refine ⟨b, .ref ma, first, f, F, (by show [V.ref b, V.ref ma, V.str f, V.int (((k + 1 : Nat) : Int) - 1)] = _; rw [ek1]), gB.bag, hM.go gB, mok, lk_key hg', by omega, fun v7 M7 H7 g7 hr7 hw7 _ => ?_⟩
      obtain ⟨ra, rod, rxs, rfl, hra, prx⟩ := hr7
      refine ⟨ln3, fun t8 ht8 => ?_⟩
      have g8 := (gB.trans g7).new (x := .tup [V.str "in", V.int (i : Nat), V.ref ra]) ht8
      have hs8 : (upd H7 t8 (.tup [V.str "in", V.int (i : Nat), V.ref ra])) s = _ := same_new ht8 _ _ (g7.own hsb hs6)
      have hra8 : (upd H7 t8 (.tup [V.str "in", V.int (i : Nat), V.ref ra])) ra = _ := same_new ht8 _ _ hra
      have k8 : Keep H7 (upd H7 t8 (.tup [V.str "in", V.int (i : Nat), V.ref ra])) := kp_new ht8
      have ht8' : (upd H7 t8 (.tup [V.str "in", V.int (i : Nat), V.ref ra])) t8 = _ := upd_same
      generalize upd H7 t8 (.tup [V.str "in", V.int (i : Nat), V.ref ra]) = H8 at g8 hs8 hra8 k8 ht8' ⊢
      refine ⟨ln1, fun l9 hl9 => ?_⟩
      have s9 : Same H8 (upd H8 l9 (.lst [V.ref t8])) := same_new hl9
      have hl9' : (upd H8 l9 (.lst [V.ref t8])) l9 = _ := upd_same
      generalize upd H8 l9 (.lst [V.ref t8]) = H9 at s9 hl9' ⊢
      refine ⟨s, l9, xs, _, rfl, rfl, s9 _ _ hs8, hl9', by rw [Paired.length pp]; exact Nat.le_of_lt (big (by simp only [List.length_singleton]; omega)), fun p hp => ⟨p, _, rfl, upd_same, trivial, fun od2 => ?_⟩⟩
      rw [upd_upd]
      have sp9 : Same H9 (upd H9 p (.frz od2 (.lst (xs ++ [V.ref t8])))) := same_new hp
      have kA : Keep H7 (upd H9 p (.frz od2 (.lst (xs ++ [V.ref t8])))) := k8.trans (kp_of (s9.trans sp9))
      refine q _ (.inn sts i M7) _ ((g8.same s9).same sp9) ⟨p, od2, _, rfl, upd_same, xs, t8, ra, rod, rxs, rfl, mos (R := rStep 4) (g7.keep.trans kA) pp6, sp9 _ _ (s9 _ _ ht8'), sp9 _ _ (s9 _ _ hra8), rMo_mono kA prx⟩ ⟨hw, xw, f, as, rs, hpw, es, hw7⟩ (by show sts.length + 1 ≤ 20; omega)
    · exact ⟨false, bF (fun z => e4 (V.int.inj z)), iteF ⟨_, rfl, stop gl5⟩⟩
theorem mom_all (T : Tx K mg) (c_l_take : Cal P w K mg base 1 "_law_take" S_take) (c_l_gone_on : Cal P w K mg base 10 "_law_gone_on" (S_gone 4)) : ∀ k, Cal P w K mg base (10 + k + 1) "_law_drawn_moment" (S_mom k)
  | 0 => by
    have c0 : Cal P w K mg base (10 + 0) "_law_drawn_moment" (S_mom' 0) := cal_of (f_l_drawn_moment T) (g_l_drawn_moment T) fr_no
    exact cal_of (f_l_drawn_moment T) (g_l_drawn_moment T) (r_mom 0 T c_l_take c_l_gone_on c0)
  | k + 1 => cal_of (f_l_drawn_moment T) (g_l_drawn_moment T) (r_mom (k + 1) T c_l_take c_l_gone_on (mom_all T c_l_take c_l_gone_on k))
end Fp

/-! ## FpGenO -/
set_option Elab.async false
set_option linter.all false
set_option maxRecDepth 100000
set_option maxHeartbeats 2000000
namespace Fp
open PySem PySem.Spec PyProof.Rows L2
variable {P : Program} {w : World} {K : PySem.W.Frag} {mg : Str → Option Value} {base : Heap}
/-! ### the law's own steps -/
/-- slots: 0 _law_program_here, 1 _law_name, 2 _law_form, 3 _law_step, 4 _law_statement_here -/
abbrev N_l_stepped : List Str := [Str.ofString "_law_program_here", Str.ofString "_law_name", Str.ofString "_law_form", Str.ofString "_law_step", Str.ofString "_law_statement_here"]
theorem sc_l_stepped : FnScope N_l_stepped [Str.ofString "_law_program_here", Str.ofString "_law_name", Str.ofString "_law_form", Str.ofString "_law_step"] (defScope s_l_stepped) := ⟨rfl, rfl, rfl, by decide +kernel, rfl, by decide +kernel, by decide +kernel⟩
theorem r_stepped (n : Nat) (T : Tx K mg) (c_Procedure_way : CalS P w K mg base 2 (cP K) "way" (S_Procedure_way K)) (c_Program_getitem : CalS P w K mg base 2 (cG K) "__getitem__" (S_Program_getitem K)) (c_Form_behind : CalF P w K mg base 4 (cF K) "behind" (S_Form_behind K))
    (c_Form_after : CalF P w K mg base 4 (cF K) "after" (S_Form_after K)) (c_l_run_form : Cal P w K mg base (4 + 2 * n) "_law_run_form" (S_fr' K n)) : FnR P w K mg base CX0 (4 + 2 * n + 1) (a_l_stepped K) (sp (S_fb K n)) := by
  refine fr_of (S := (S_fb K n)) (N := N_l_stepped) (f_l_stepped T) sc_l_stepped (fun vs H Q h => by first | (obtain ⟨rfl, _⟩ := h; rfl) | (obtain ⟨_, rfl, _⟩ := h; rfl) | (obtain ⟨_, _, rfl, _⟩ := h; rfl) | (obtain ⟨_, _, _, rfl, _⟩ := h; rfl) | (obtain ⟨_, _, _, _, rfl, _⟩ := h; rfl) | (obtain ⟨_, _, _, _, _, rfl, _⟩ := h; rfl) | (obtain ⟨_, _, _, _, _, _, rfl, _⟩ := h; rfl) | (obtain ⟨_, _, _, _, _, _, _, rfl, _⟩ := h; rfl) | (obtain ⟨_, _, _, _, _, _, _, _, rfl, _⟩ := h; rfl) | (obtain ⟨_, _, _, _, _, _, _, _, _, rfl, _⟩ := h; rfl) | (obtain ⟨_, _, _, _, _, _, _, _, _, _, rfl, _⟩ := h; rfl) | (obtain ⟨_, _, _, _, _, _, _, _, _, _, _, rfl, _⟩ := h; rfl) | (obtain ⟨_, _, _, _, _, _, _, _, _, _, _, _, rfl, _⟩ := h; rfl) | (obtain ⟨_, _, _, _, _, _, _, _, _, _, _, _, _, rfl, _⟩ := h; rfl) | (obtain ⟨_, _, _, _, _, _, _, _, _, _, _, _, _, _, rfl, _⟩ := h; rfl) | (obtain ⟨_, _, _, _, _, _, _, _, _, _, _, _, _, _, _, rfl, _⟩ := h; rfl) | (obtain ⟨_, _, _, _, _, _, _, _, _, _, _, _, _, _, _, _, rfl, _⟩ := h; rfl)) (fun _ _ _ _ _ _ us hl => match us, hl with | [_, _, _, _], _ => rfl) (fun cdv A outer s H vs Q E hr h => ?_)
  obtain ⟨g, fv, sv, first, f, pg, F, s, S, ks0, rfl, hg, ok, hf, hF, fo, hs, hw, q⟩ := h
  obtain ⟨ga, rfl, gdx, gd, hgs, hgd⟩ := id hg
  obtain ⟨fa, rfl, dx, k, p, r, t, hfa, _⟩ := id hF
  obtain ⟨ep, okp⟩ := ok.at hf
  refine ⟨_, (pss_cons (ps_if (pt_not (pt_val (pe_callB (cIsi K rfl) rfl (n_isinstance T) (by decide +kernel) (pa_cons (pv 3) (pa_cons (pe_bltn (v := .ty "tuple") rfl (n_tuple T) (by decide +kernel) rfl) pa_nil))))) (pss_one (ps_ret (pmeth c_Form_after hr (by omega) (pv 2) (pa_cons (pe_ix (ixT K rfl) (pmethS c_Procedure_way hr (by omega) (pgetG c_Program_getitem hr (by omega) (pv 0) (pv 1)) (pa_cons (pv 3) pa_nil)) pe_int (fun _ _ => rfl)) pa_nil)))) pss_nil)
      (pss_cons (ps_set (i := 4) sc_l_stepped.nd rfl (.inl rfl) (pe_ix (ixT K rfl) (pmethS c_Procedure_way hr (by omega) (pgetG c_Program_getitem hr (by omega) (pv 0) (pv 1)) (pa_cons (pe_ix (ixT K rfl) (pv 3) pe_int (fun _ _ => rfl)) pa_nil)) pe_int (fun _ _ => rfl)))
      (pss_one (ps_ret (pmeth c_Form_behind hr (by omega) (pv 2) (pa_cons (pv 4) (pa_cons (pcall c_l_run_form hr (by omega) rfl (pa_cons (pv 0) (pa_cons (pe_ix (ixT K rfl) (pv 4) pe_int (fun _ _ => rfl)) (pa_cons (pe_ix (ixT K rfl) (pv 3) pe_int (fun _ _ => rfl)) pa_nil)))) pa_nil))))))), ?_⟩
  cases s with
  | way i =>
    have ev : sv = .int (i : Nat) := by cases n <;> exact hs
    subst ev
    obtain ⟨x, hx, hnc⟩ := hw.way
    obtain ⟨_, _, h3, h4, h5, _⟩ := okp.ws x (List.mem_of_getElem? hx)
    refine ⟨_, rfl, _, _, _, _, _, rfl, .ty _, .base (.int _), kt_it, false, rfl, iteT ?_⟩
    refine ⟨_, rfl, fa, dx, _, rfl, hfa, ff_no (by decide +kernel), ?_⟩
    refine ⟨_, rfl, _, rfl, ga, gdx, _, rfl, hgs, _, first, f, pg, prOf pg f, rfl, hg, ep, fun v1 hv1 => ?_⟩
    obtain ⟨pa, rfl, pdx, pk, pu, pr, pw, hps, _⟩ := id hv1
    refine ⟨pa, pdx, _, rfl, hps, _, rfl, _, prOf pg f, i, x, rfl, hv1, hx, fun v2 ⟨wa, wu, e2, hwa, hwu⟩ => ?_⟩
    subst e2
    refine ⟨_, _, _, _, rfl, rfl, .inl (.inl hwa), at2, _, _, F, x.s, S, rfl, hF, hwu, h3, fo.wf, by rw [fo.keys]; exact h4, hnc, fun v' H' s' hv' => q _ _ s' ?_⟩
    rw [stepF_way, wayS_of hx]
    exact hv'
  | call i r =>
    cases n with
    | zero => exact hw.elim
    | succ n =>
      obtain ⟨a, b, od, xs, rfl, ha, hb, pb⟩ := hs
      obtain ⟨x, g, as, rs, hx, hc, hr'⟩ := hw
      obtain ⟨hgk, cf, sin, syn⟩ := ok.call hf hx hc
      obtain ⟨_, okq⟩ := ok.at hgk
      have hO : FOk (e0 :: (prOf pg g).params) (prOf pg g).kinds (prOf pg g) (runF pg n g r) := run_ok ok hgk r _ hr' (begin_ok okq)
      refine ⟨_, rfl, _, _, _, _, _, rfl, .ty _, .base (.tup ha), kt_tt, true, rfl, iteF ?_⟩
      refine ⟨_, rfl, _, rfl, ga, gdx, _, rfl, hgs, _, first, f, pg, prOf pg f, rfl, hg, ep, fun v1 hv1 => ?_⟩
      obtain ⟨pa, rfl, pdx, pk, pu, pr, pw, hps, _⟩ := id hv1
      refine ⟨pa, pdx, _, rfl, hps, _, rfl, _, _, _, _, rfl, rfl, .inl (.inl ha), at1, _, prOf pg f, i, x, rfl, hv1, hx, fun v2 ⟨wa, wu, e2, hwa, hwu⟩ => ?_⟩
      subst e2
      rw [hc] at hwu
      obtain ⟨ca, cy, cz, rfl, hca, hcy, hcz⟩ := id hwu
      refine ⟨_, _, _, _, rfl, rfl, .inl (.inl hwa), at2, ?_⟩
      refine ⟨_, rfl, fa, dx, _, rfl, hfa, ff_no (by decide +kernel), _, rfl, ?_⟩
      refine ⟨_, rfl, _, rfl, _, _, _, _, rfl, rfl, .inl (.inl hca), at1, _, rfl, _, _, _, _, rfl, rfl, .inl (.inl ha), at2, ?_⟩
      refine ⟨_, _, first, g, pg, r, rfl, hg, ok, hgk, ⟨b, od, xs, rfl, hb, pb⟩, hr', fun v3 H3 s3 hv3 => ?_⟩
      refine ⟨_, _, _, F, runF pg n g r, g, as, rs, S, rfl, mo (kp_of s3) hF, mo (kp_of s3) hwu, hv3, fo.wf, by rw [fo.keys]; exact sin.1, ?_, ?_, by rw [fo.keys]; exact sin.2, by rw [hO.params]; exact cf.la, ?_, hO.wf.ne, fun y r0 e => ⟨row9 hO.wf e, fun z hz => ?_⟩, fun v' H' s' hv' => q _ _ (s3.trans s') ?_⟩
      · rw [cf.la]; have := okq.ps.2.1; omega
      · exact syn.2.2.1
      · intro z hz
        rw [hO.results] at hz
        rw [hO.keys]
        exact okq.rs.2.2 z hz
      · have := (hO.wf.row y r0 e).2.1 z hz
        rw [hO.params]
        exact List.mem_cons.mp this
      · show rFm K H' v' (match wayS (prOf pg f) i with | .call g as rs => behind_ F as rs (r.foldl (stepF pg n g) (begin_ (prOf pg g))) | _ => F)
        rw [wayS_of hx, hc]
        exact hv'
/-- slots: 0 _law_program_here, 1 _law_name, 2 _law_run, 3 _law_form, 4 _law_step -/
abbrev N_l_run_form : List Str := [Str.ofString "_law_program_here", Str.ofString "_law_name", Str.ofString "_law_run", Str.ofString "_law_form", Str.ofString "_law_step"]
theorem sc_l_run_form : FnScope N_l_run_form [Str.ofString "_law_program_here", Str.ofString "_law_name", Str.ofString "_law_run"] (defScope s_l_run_form) := ⟨rfl, rfl, rfl, by decide +kernel, rfl, by decide +kernel, by decide +kernel⟩
theorem r_run_form (n : Nat) (T : Tx K mg) (c_Program_getitem : CalS P w K mg base 2 (cG K) "__getitem__" (S_Program_getitem K)) (c_Form_begin : CalT P w K mg base 3 "Form" (cF K) "begin" (S_Form_begin K))
    (c_l_stepped : Cal P w K mg base (4 + 2 * n + 1) "_law_stepped" (S_fb K n)) : FnR P w K mg base CX0 (4 + 2 * (n + 1)) (a_l_run_form K) (sp (S_fr K n)) := by
  rw [show 4 + 2 * (n + 1) = 5 + 2 * n + 1 by omega]
  refine fr_of (S := (S_fr K n)) (N := N_l_run_form) (f_l_run_form T) sc_l_run_form (fun vs H Q h => by first | (obtain ⟨rfl, _⟩ := h; rfl) | (obtain ⟨_, rfl, _⟩ := h; rfl) | (obtain ⟨_, _, rfl, _⟩ := h; rfl) | (obtain ⟨_, _, _, rfl, _⟩ := h; rfl) | (obtain ⟨_, _, _, _, rfl, _⟩ := h; rfl) | (obtain ⟨_, _, _, _, _, rfl, _⟩ := h; rfl) | (obtain ⟨_, _, _, _, _, _, rfl, _⟩ := h; rfl) | (obtain ⟨_, _, _, _, _, _, _, rfl, _⟩ := h; rfl) | (obtain ⟨_, _, _, _, _, _, _, _, rfl, _⟩ := h; rfl) | (obtain ⟨_, _, _, _, _, _, _, _, _, rfl, _⟩ := h; rfl) | (obtain ⟨_, _, _, _, _, _, _, _, _, _, rfl, _⟩ := h; rfl) | (obtain ⟨_, _, _, _, _, _, _, _, _, _, _, rfl, _⟩ := h; rfl) | (obtain ⟨_, _, _, _, _, _, _, _, _, _, _, _, rfl, _⟩ := h; rfl) | (obtain ⟨_, _, _, _, _, _, _, _, _, _, _, _, _, rfl, _⟩ := h; rfl) | (obtain ⟨_, _, _, _, _, _, _, _, _, _, _, _, _, _, rfl, _⟩ := h; rfl) | (obtain ⟨_, _, _, _, _, _, _, _, _, _, _, _, _, _, _, rfl, _⟩ := h; rfl) | (obtain ⟨_, _, _, _, _, _, _, _, _, _, _, _, _, _, _, _, rfl, _⟩ := h; rfl)) (fun _ _ _ _ _ _ us hl => match us, hl with | [_, _, _], _ => rfl) (fun cdv A outer s H vs Q E hr h => ?_)
  obtain ⟨g, rv, first, f, pg, r, rfl, hg, ok, hf, ⟨b, od, xs, rfl, hb, pb⟩, hw, q⟩ := h
  obtain ⟨ga, rfl, gdx, gd, hgs, hgd⟩ := id hg
  obtain ⟨ep, okp⟩ := ok.at hf
  refine ⟨_, (pss_cons (ps_set (i := 3) sc_l_run_form.nd rfl (.inl rfl) (pstat c_Form_begin hr (by omega) rfl (pa_cons (pgetG c_Program_getitem hr (by omega) (pv 0) (pv 1)) pa_nil)))
      (pss_cons (ps_for PassesOwn.never rfl (piList K rfl (pv 2)) (pg_name (i := 4) sc_l_run_form.nd rfl (.inl rfl)) (pss_one (ps_set (i := 3) sc_l_run_form.nd rfl (.inl rfl) (pcall c_l_stepped hr (by omega) rfl (pa_cons (pv 0) (pa_cons (pv 1) (pa_cons (pv 3) (pa_cons (pv 4) pa_nil))))))))
      (pss_one (ps_ret (pv 3))))), ?_⟩
  refine ⟨_, rfl, _, rfl, ga, gdx, _, rfl, hgs, _, first, f, pg, prOf pg f, rfl, hg, ep, fun v1 hv1 => ?_⟩
  refine ⟨_, prOf pg f, rfl, hv1, okp.wk, fun v2 H2 s2 hv2 => ?_⟩
  refine ⟨_, rfl, b, rfl, ⟨xs, .inl (.inr ⟨_, s2 _ _ hb⟩)⟩, ?_⟩
  refine for_d (wd_list pb) (fun (d : List Step) (σ : L2.St) (H' : Hp) => ∃ fv y4, σ = [some (V.ref ga), some (V.str f), some (V.ref b), some fv, y4] ∧ Same H H' ∧ rFm K H' fv (d.foldl (stepF pg n f) (begin_ (prOf pg f)))) ?_ ?_ ?_ ?_
  · exact ⟨_, _, rfl, s2, hv2⟩
  · rintro d σ H' ⟨_, _, _, s, _⟩
    exact .inl (.inr ⟨_, s _ _ hb⟩)
  · rintro d s0 rr x σ H1 H' el ⟨fv, y4, rfl, s, hfv⟩ ⟨rfl, hx⟩
    have hd : ∀ z ∈ d, WStep pg n f z := fun z hz => hw z (by rw [el]; exact List.mem_append_left _ hz)
    refine ⟨_, rfl, _, rfl, _, rfl, _, rfl, _, _, _, first, f, pg, _, s0, _, _, rfl, mo (kp_of s) hg, ok, hf, hfv, run_ok ok hf d _ hd (begin_ok okp), mo (kp_of s) hx, hw s0 (by rw [el]; simp), fun v' H3 s3 hv' => ?_⟩
    refine ⟨_, _, rfl, s.trans s3, ?_⟩
    rw [List.foldl_append]
    exact hv'
  · rintro σ H1 ⟨fv, y4, rfl, s, hfv⟩
    exact ⟨_, rfl, q _ _ s hfv⟩
theorem stepped_all (T : Tx K mg) (c_Procedure_way : CalS P w K mg base 2 (cP K) "way" (S_Procedure_way K)) (c_Program_getitem : CalS P w K mg base 2 (cG K) "__getitem__" (S_Program_getitem K)) (c_Form_behind : CalF P w K mg base 4 (cF K) "behind" (S_Form_behind K))
    (c_Form_after : CalF P w K mg base 4 (cF K) "after" (S_Form_after K)) (c_Form_begin : CalT P w K mg base 3 "Form" (cF K) "begin" (S_Form_begin K)) : ∀ n, Cal P w K mg base (4 + 2 * n + 1) "_law_stepped" (S_fb K n) ∧ Cal P w K mg base (4 + 2 * (n + 1)) "_law_run_form" (S_fr K n)
  | 0 => by
    have c0 : Cal P w K mg base (4 + 2 * 0) "_law_run_form" (S_fr' K 0) := cal_of (f_l_run_form T) (g_l_run_form T) fr_no
    have c1 := cal_of (f_l_stepped T) (g_l_stepped T) (r_stepped 0 T c_Procedure_way c_Program_getitem c_Form_behind c_Form_after c0)
    exact ⟨c1, cal_of (f_l_run_form T) (g_l_run_form T) (r_run_form 0 T c_Program_getitem c_Form_begin c1)⟩
  | n + 1 => by
    obtain ⟨_, c0⟩ := stepped_all T c_Procedure_way c_Program_getitem c_Form_behind c_Form_after c_Form_begin n
    have c1 := cal_of (f_l_stepped T) (g_l_stepped T) (r_stepped (n + 1) T c_Procedure_way c_Program_getitem c_Form_behind c_Form_after c0)
    exact ⟨c1, cal_of (f_l_run_form T) (g_l_run_form T) (r_run_form (n + 1) T c_Program_getitem c_Form_begin c1)⟩
end Fp

/-! ## FpNum -/
set_option Elab.async false
set_option linter.all false
set_option maxRecDepth 100000
set_option maxHeartbeats 2000000
namespace Fp
open PySem PySem.Spec PyProof.Rows L2
variable {P : Program} {w : World} {K : PySem.W.Frag} {mg : Str → Option Value} {base : Heap}
/-! ### numbers of a Form with a start -/
def src (st : Row) (y : Str) : Int := if y = e0 then 0 else (lk st y).getD 0
def sums (st : Row) (r : Row) : List Int := r.map fun p => src st p.1 + p.2
def IsMx (m : Int) (l : List Int) : Prop := m ∈ l ∧ ∀ y ∈ l, y ≤ m
def IsMn (m : Int) (l : List Int) : Prop := m ∈ l ∧ ∀ y ∈ l, m ≤ y
def NumAt (st : Row) (kind : Str) (r : Row) (v : Int) : Prop := if kind = "low" then IsMn v (sums st r) else IsMx v (sums st r)
structure NumOk (st : Row) (F : Fm) (nu : Row) : Prop where
  keys : keys nu = srt (Fp.keys F.table)
  at_ : ∀ x v, lk nu x = some v → ∃ r, lk F.table x = some r ∧ NumAt st (kindIn F.kinds x) r v
/-- a start for sources within S -/
structure StOk (S : List Str) (st : Row) : Prop where
  nd : (keys st).Nodup
  ne : e0 ∉ keys st
  len : st.length ≤ 60
  all : ∀ y ∈ S, y = e0 ∨ y ∈ keys st
theorem dicMerge {α : Type} {R : Rep α} {H : Hp} {k2 : List (Key × V)} {t2 : List (Str × α)} (h2 : DicP R H k2 t2) : ∀ {k1 : List (Key × V)} {t1 : List (Str × α)}, DicP R H k1 t1 → DicP R H (mergeK k1 k2) (t2.foldl (fun d p => put d p.1 p.2) t1) := by
  unfold DicP at h2
  induction h2 with
  | nil => intro k1 t1 h; exact h
  | @cons p q r t e er ih =>
    intro k1 t1 h
    have hp := DicP.put (k := q.1) h e.2
    rw [← e.1] at hp
    exact ih hp
/-- start, and zero -/
theorem ahead_at {H : Hp} {kvs : List (Key × V)} {st : Row} {S : List Str} (h : DicP rInt H kvs st) (ok : StOk S st) {y : Str} (hy : y = e0 ∨ y ∈ keys st) :
    valV (mergeK (mergeK [] kvs) (mergeK [] [((Sum.inr e0 : Key), V.int 0)])) (Sum.inr y) = some (.int (src st y)) := by
  have h1 : DicP rInt H (mergeK [] kvs) st := by
    have := dicMerge h (k1 := []) (t1 := []) .nil
    rw [show st.foldl (fun d p => put d p.1 p.2) [] = mkD st from rfl, nd_map ok.nd] at this
    exact this
  have h2 : DicP rInt H (mergeK [] [((Sum.inr e0 : Key), V.int 0)]) [(e0, 0)] := .cons ⟨rfl, rfl⟩ .nil
  have h3 : DicP rInt H (mergeK (mergeK [] kvs) (mergeK [] [((Sum.inr e0 : Key), V.int 0)])) (put st e0 0) := dicMerge h2 h1
  have e : lk (put st e0 0) y = some (src st y) := by
    rw [lk_put]
    unfold src
    by_cases e0' : y = e0
    · rw [if_pos e0', if_pos e0']
    · rw [if_neg e0', if_neg e0']
      obtain ⟨v, ev⟩ := lk_some (hy.resolve_left e0')
      rw [ev]; rfl
  obtain ⟨v, ev, rv⟩ := h3.some e
  rw [ev, show v = _ from rv]
theorem sums_at {st : Row} {r : Row} {v : Int} : v ∈ sums st r ↔ ∃ p ∈ r, src st p.1 + p.2 = v := List.mem_map
/-- slots: 0 self, 1 start, 2 ahead*, 3 found, 4 name, 5 numbers, 6 source, 7 number -/
abbrev N_Form_numbers : List Str := [Str.ofString "self", Str.ofString "start", Str.ofString "ahead", Str.ofString "found", Str.ofString "name", Str.ofString "numbers", Str.ofString "source", Str.ofString "number"]
theorem sc_Form_numbers : FnScope N_Form_numbers [Str.ofString "self", Str.ofString "start"] (defScope s_Form_numbers) := ⟨rfl, rfl, rfl, by decide +kernel, rfl, by decide +kernel, by decide +kernel⟩
def S_Form_numbers (K : PySem.W.Frag) : Sq := fun vs H Q => ∃ (v sv : V) (F : Fm) (st : Row) (S : List Str), vs = [v, sv] ∧ rFm K H v F ∧ WfF S F ∧ rDic rInt H sv st ∧ StOk S st ∧ ∀ v' nu H', Same H H' → rDic rInt H' v' nu → NumOk st F nu → Q v' H'
theorem r_Form_numbers (T : Tx K mg) (c_Form_names : CalF P w K mg base 1 (cF K) "names" (S_Form_names K)) : FnR P w K mg base CX0 2 (a_Form_numbers K) (sp (S_Form_numbers K)) := by
  refine fr_of (S := (S_Form_numbers K)) (N := N_Form_numbers) (f_Form_numbers T) sc_Form_numbers (fun vs H Q h => by first | (obtain ⟨rfl, _⟩ := h; rfl) | (obtain ⟨_, rfl, _⟩ := h; rfl) | (obtain ⟨_, _, rfl, _⟩ := h; rfl) | (obtain ⟨_, _, _, rfl, _⟩ := h; rfl) | (obtain ⟨_, _, _, _, rfl, _⟩ := h; rfl) | (obtain ⟨_, _, _, _, _, rfl, _⟩ := h; rfl) | (obtain ⟨_, _, _, _, _, _, rfl, _⟩ := h; rfl) | (obtain ⟨_, _, _, _, _, _, _, rfl, _⟩ := h; rfl) | (obtain ⟨_, _, _, _, _, _, _, _, rfl, _⟩ := h; rfl) | (obtain ⟨_, _, _, _, _, _, _, _, _, rfl, _⟩ := h; rfl) | (obtain ⟨_, _, _, _, _, _, _, _, _, _, rfl, _⟩ := h; rfl) | (obtain ⟨_, _, _, _, _, _, _, _, _, _, _, rfl, _⟩ := h; rfl) | (obtain ⟨_, _, _, _, _, _, _, _, _, _, _, _, rfl, _⟩ := h; rfl) | (obtain ⟨_, _, _, _, _, _, _, _, _, _, _, _, _, rfl, _⟩ := h; rfl) | (obtain ⟨_, _, _, _, _, _, _, _, _, _, _, _, _, _, rfl, _⟩ := h; rfl) | (obtain ⟨_, _, _, _, _, _, _, _, _, _, _, _, _, _, _, rfl, _⟩ := h; rfl) | (obtain ⟨_, _, _, _, _, _, _, _, _, _, _, _, _, _, _, _, rfl, _⟩ := h; rfl)) (fun _ _ _ _ _ _ us hl => match us, hl with | [_, _], _ => rfl) (fun cdv A outer s H vs Q E hr h => ?_)
  obtain ⟨v, sv, F, st, S, rfl, hF, wf, ⟨sa, sod, skvs, rfl, hsa, sdp⟩, ok, q⟩ := h
  obtain ⟨fa, rfl, dx, k, p, r, t, hfa, hk, hp, hr', td, tod, tkvs, rfl, htd, tdp⟩ := id hF
  refine ⟨_, (pss_cons (ps_asg (pe_tup (pa_cons (pe_dsp (pv 1) (pps_cons pe_str pe_int pps_nil)) (pa_cons pe_dnewK pa_nil))) (pgTup (n := 2) K rfl rfl (pgs_cons (pg_name (i := 2) sc_Form_numbers.nd rfl (.inr rfl)) (pgs_cons (pg_name (i := 3) sc_Form_numbers.nd rfl (.inl rfl)) pgs_nil))))
      (pss_cons (ps_for PassesOwn.never rfl (piList K rfl (pmeth0 c_Form_names hr (by decide) (pv 0))) (pg_name (i := 4) sc_Form_numbers.nd rfl (.inl rfl)) (pss_cons (ps_setLc (i := 5) (own := [("source", 6), ("number", 7)]) rfl sc_Form_numbers.nd rfl rfl (sw_true rfl rfl rfl (by decide +kernel)) (pi_items (pe_dget (hu_of hr) (peFld K rfl (pv 0)) (pv 4) (fun _ _ => rfl))) (blkOk_by (own := [("source", 6), ("number", 7)]) (N := N_Form_numbers) (sc := defScope s_Form_numbers) (by decide +kernel)) (fun _ _ _ _ _ => (pgTup (n := 2) K rfl rfl (pgs_cons (pg_name (i := 6) sc_Form_numbers.nd rfl (.inl rfl)) (pgs_cons (pg_name (i := 7) sc_Form_numbers.nd rfl (.inl rfl)) pgs_nil)))) (fun _ _ _ _ _ => pts_nil) (fun _ _ _ _ _ => (pe_op op_add (pe_dget (hu_of hr) (pv 2) (pv 6) (fun _ _ => rfl)) (pv 7))))
        (pss_one (ps_dput (hu_of hr) (pv 3) (pv 4) (pe_ifExp (pt_cmpR op_eq (pe_dget (hu_of hr) (peFld K rfl (pv 0)) (pv 4) (fun _ _ => rfl)) pe_str (nomark _)) (pe_callB (cMin K rfl rfl) rfl (n_min T) (by decide +kernel) (pa_cons (pv 5) pa_nil)) (pe_callB (cMax K rfl rfl) rfl (n_max T) (by decide +kernel) (pa_cons (pv 5) pa_nil))) rfl))))
      (pss_one (ps_ret (pe_fz (pv 3)))))), ?_⟩
  intro d hd
  have had : sa ≠ d := fun z => by rw [← z, hsa] at hd; cases hd
  have sl := sdp.len
  have sl2 := ok.len
  refine ⟨_, rfl, sa, skvs, rfl, had, upd_same, .inr ⟨sod, same_new hd _ _ hsa⟩, by omega, fun p0 hp0 => ?_⟩
  rw [upd_upd] at hp0 ⊢
  have hpd : p0 ≠ d := fun z => by rw [z, upd_same] at hp0; cases hp0
  refine ⟨upd_same, by rw [upd_ne hpd.symm]; exact upd_same, [(Sum.inr e0, V.int 0)], rfl, by decide, ?_⟩
  have sA : Same H (upd (upd (upd (upd H d (.dK (mergeK [] skvs))) p0 (.dK [])) p0 (.dK (mergeK [] [((Sum.inr e0 : Key), V.int 0)]))) d (.dK (mergeK (mergeK [] skvs) (mergeK [] [((Sum.inr e0 : Key), V.int 0)])))) := by
    rw [upd_upd]
    exact Same.mut ((same_new hd).trans (same_new hp0)) hd
  have hd1 : (upd (upd (upd (upd H d (.dK (mergeK [] skvs))) p0 (.dK [])) p0 (.dK (mergeK [] [((Sum.inr e0 : Key), V.int 0)]))) d (.dK (mergeK (mergeK [] skvs) (mergeK [] [((Sum.inr e0 : Key), V.int 0)])))) d = _ := upd_same
  generalize (upd (upd (upd (upd H d (.dK (mergeK [] skvs))) p0 (.dK [])) p0 (.dK (mergeK [] [((Sum.inr e0 : Key), V.int 0)]))) d (.dK (mergeK (mergeK [] skvs) (mergeK [] [((Sum.inr e0 : Key), V.int 0)])))) = H1 at sA hd1 ⊢
  have hah : ∀ y ∈ S, valV (mergeK (mergeK [] skvs) (mergeK [] [((Sum.inr e0 : Key), V.int 0)])) (Sum.inr y) = some (.int (src st y)) := fun y hy => ahead_at sdp ok (ok.all y hy)
  generalize mergeK (mergeK [] skvs) (mergeK [] [((Sum.inr e0 : Key), V.int 0)]) = AK at hd1 hah
  intro f hf
  have s1 : Same H1 (upd H1 f (.dK [])) := same_new hf
  have hf1 : (upd H1 f (.dK [])) f = some (.dK []) := upd_same
  generalize upd H1 f (.dK []) = H2 at s1 hf1 ⊢
  refine ⟨ln2, fun t0 ht0 => ⟨t0, _, rfl, .inl (.inl upd_same), rfl, _, _, rfl, _, _, rfl, rfl, ?_⟩⟩
  have s2 : Same H2 (upd H2 t0 (.tup [V.ref d, V.ref f])) := same_new ht0
  have hf2 := s2 _ _ hf1
  have hd2 := s2 _ _ (s1 _ _ hd1)
  generalize upd H2 t0 (.tup [V.ref d, V.ref f]) = H3 at s2 hf2 hd2 ⊢
  have sB := (sA.trans s1).trans s2
  have hff : ∀ {H' : Hp}, Same H H' → H f = none := fun _ => sA.free hf
  have hF3 := mo (kp_of sB) hF
  refine ⟨_, rfl, fa, dx, _, rfl, sB _ _ hfa, ff_no (by decide +kernel), _, F, rfl, hF3, by have := wf.len; omega, fun v1 H4 s3 ⟨b, bod, bxs, e, hb, pb⟩ => ?_⟩
  subst e
  have sC := sB.trans s3
  refine ⟨b, rfl, ⟨bxs, .inl (.inr ⟨_, hb⟩)⟩, ?_⟩
  have hsrt : (srt (keys F.table)).length ≤ 8 := by rw [len_srt]; unfold keys; rw [List.length_map]; exact wf.len
  refine for_d (wd_list pb) (fun (dn : List Str) (σ : L2.St) (H' : Hp) => ∃ (y4 y5 : Option V), σ = [some (V.ref fa), some (V.ref sa), some (V.ref d), some (V.ref f), y4, y5, none, none] ∧ Same H H' ∧ Keep H4 H' ∧ H' d = some (.dK AK) ∧
      ∃ kvs nu, H' f = some (.dK kvs) ∧ DicP rInt H' kvs nu ∧ keys nu = dn ∧ ∀ x v, lk nu x = some v → ∃ r, lk F.table x = some r ∧ NumAt st (kindIn F.kinds x) r v) ?_ ?_ ?_ ?_
  · exact ⟨none, none, rfl, sC, Keep.refl _, s3 _ _ hd2, [], [], s3 _ _ hf2, .nil, rfl, fun x v e => nomatch e⟩
  · rintro dn σ H' ⟨_, _, _, _, k, _⟩
    exact .inl (.inr ⟨_, k _ _ trivial hb⟩)
  · rintro dn x rr v2 σ H5 H' el ⟨y4, y5, rfl, s5, k5, hd5, kvs, nu, hf5, dp5, hkn, hnu⟩ ⟨rfl, rfl⟩
    have hxk : x ∈ keys F.table := mem_srt.mp (by rw [el]; simp)
    obtain ⟨row, er⟩ := lk_some hxk
    obtain ⟨rv, erv, hrv⟩ := tdp.some er
    obtain ⟨ra, rod, rkvs, rfl, hra, rdp⟩ := id hrv
    have hrow := wf.row x row er
    have hrl := row_len hrow.1 hrow.2.1 wf.few
    have ffld : ∀ {H' : Hp}, Same H H' → H' fa = some (.ins (cF K) dx (FF k p r (V.ref td))) := fun s => s _ _ hfa
    refine ⟨_, rfl, fa, _, dx, _, _, rfl, ffld s5, c_Form T, no_its_table T, ff_t, _, rfl, td, _, rfl, dgR (.inr ⟨tod, s5 _ _ htd⟩) erv, ra, rod, rkvs, rfl, s5 _ _ hra, fun D hD => ?_⟩
    refine lc_m (wd_items rdp) none rInt (fun p => src st p.1 + p.2) hD (go_refl _) (fun H' g => g _ _ (s5 _ _ hra)) (sz1000 (by omega)) (fun p1 v3 H6 H7 L hp1 go y fin => ?_) fun H6 acc go hD2 pa => ?_
    · obtain ⟨t6, x6, rfl, ht6, rfl, rfl⟩ := y
      have st6 : Same H6 (upd H6 t6 (.tup [V.str p1.1, V.int p1.2])) := same_new ht6
      have hS : p1.1 ∈ S := hrow.2.1 _ (List.mem_map.mpr ⟨p1, hp1, rfl⟩)
      refine ⟨_, _, rfl, .inl (.inl upd_same), rfl, _, _, rfl, _, _, rfl, rfl, rfl, yes ⟨_, rfl, _, rfl, d, _, rfl, dgR (.inl (st6 _ _ (go _ _ hd5))) (hah _ hS), _, rfl, _, _, rfl, rfl, ?_⟩⟩
      exact fin _ _ st6 rfl
    have ea := ints_of pa
    subst ea
    change H6 D = some (.lst ((sums st row).map V.int)) at hD2
    have sD : Same H H6 := s5.trans go
    have hsl : 0 < (sums st row).length := by
      unfold sums
      rw [List.length_map]
      exact List.length_pos_iff.mpr hrow.2.2
    obtain ⟨kd0, kv0, rfl, dgk, rfl⟩ := dgK (mo (kp_of sD) hk) wf hxk
    have fin : ∀ m : Int, NumAt st (kindIn F.kinds x) row m → tVar 3 [some (V.ref fa), some (V.ref sa), some (V.ref d), some (V.ref f), some (V.str x), some (V.ref D), none, none] H6 fun o H8 => tVar 4 [some (V.ref fa), some (V.ref sa), some (V.ref d), some (V.ref f), some (V.str x), some (V.ref D), none, none] H8 fun ky H9 => ∃ (a : Addr) (H10 : Hp), o = .ref a ∧ DPut H9 a ky (.int m) H10 ∧
        ∃ (y4 y5 : Option V), [some (V.ref fa), some (V.ref sa), some (V.ref d), some (V.ref f), some (V.str x), some (V.ref D), none, none] = [some (V.ref fa), some (V.ref sa), some (V.ref d), some (V.ref f), y4, y5, none, none] ∧ Same H H10 ∧ Keep H4 H10 ∧ H10 d = some (.dK AK) ∧
        ∃ kvs nu, H10 f = some (.dK kvs) ∧ DicP rInt H10 kvs nu ∧ keys nu = dn ++ [x] ∧ ∀ x v, lk nu x = some v → ∃ r, lk F.table x = some r ∧ NumAt st (kindIn F.kinds x) r v := by
      intro m hm
      have hf6 := go _ _ hf5
      have hdn : dn.length < 8 := by
        have h1 := congrArg List.length el
        rw [List.length_append, List.length_cons] at h1
        omega
      have kl : kvs.length = dn.length := by
        rw [dp5.len, ← hkn]; unfold keys; rw [List.length_map]
      refine ⟨_, rfl, _, rfl, f, _, rfl, .inl ⟨kvs, Sum.inr x, hf6, rfl, by rw [kl]; exact big (by omega), rfl⟩, _, _, rfl, Same.mut sD (hff sA), (k5.trans (kp_of go)).trans (kp_mut hf6 (fun z => z)), ?_, _, put nu x m, upd_same, ?_, ?_, fun z v e => ?_⟩
      · rw [upd_ne (fun z => by rw [z, hf5] at hd5; cases hd5; exact absurd rfl (fun z2 : (d : Addr) = d => by
          have h1 := sA.free hf
          rw [← z] at h1
          have h2 := s1 _ _ hd1
          rw [z, hf1] at h2
          cases h2
          exact absurd (hah e0 wf.z) (by simp [valV])))]
        exact go _ _ hd5
      · have kE : Keep H' (upd H6 f (.dK (putK kvs (Sum.inr x) (.int m)))) := (kp_of go).trans (kp_mut hf6 (fun z => z))
        exact DicP.put (dp5.mono kE) rfl
      · have hnx : x ∉ keys nu := by
          rw [hkn]
          have hnd : (srt (keys F.table)).Nodup := nd_srt wf.nd
          rw [el] at hnd
          exact fun z => (List.nodup_append.mp hnd).2.2 _ z _ List.mem_cons_self rfl
        rw [keys_put_out hnx]
        unfold keys at hkn ⊢
        rw [List.map_append, hkn]
        rfl
      · rw [lk_put] at e
        split at e
        · rename_i ez
          cases e
          rw [ez]
          exact ⟨row, er, hm⟩
        · exact hnu z v e
    refine ⟨_, rfl, fa, _, dx, _, _, rfl, ffld sD, c_Form T, no_its_kinds T, ff_k, _, rfl, kd0, _, rfl, dgk, rfl, ?_⟩
    by_cases ek : kindIn F.kinds x = "low"
    · refine ⟨true, sT ek, iteT ⟨_, rfl, D, sums st row, rfl, .inl (.inl hD2), hsl, fun m h1 h2 => fin m ?_⟩⟩
      unfold NumAt
      rw [if_pos ek]
      exact ⟨h1, h2⟩
    · refine ⟨false, sF ek, iteF ⟨_, rfl, D, sums st row, rfl, .inl (.inl hD2), hsl, fun m h1 h2 => fin m ?_⟩⟩
      unfold NumAt
      rw [if_neg ek]
      exact ⟨h1, h2⟩
  · rintro σ H5 ⟨y4, y5, rfl, s5, k5, hd5, kvs, nu, hf5, dp5, hkn, hnu⟩
    refine ⟨_, rfl, f, _, rfl, hf5, trivial, fun od => ?_⟩
    exact q _ nu _ (Same.mut s5 (hff sA)) ⟨f, od, kvs, rfl, upd_same, dp5.mono (kp_mut hf5 (fun z => z))⟩ ⟨hkn, hnu⟩
end Fp

/-! ## FpApart -/
set_option Elab.async false
set_option linter.all false
set_option maxRecDepth 100000
set_option maxHeartbeats 2000000
namespace Fp
open PySem PySem.Spec PyProof.Rows L2
variable {P : Program} {w : World} {K : PySem.W.Frag} {mg : Str → Option Value} {base : Heap}
/-! ### how far apart: pairs of sources -/
abbrev ApL := List ((Str × Str) × Int)
def kz (p : Str × Str) : List Key := [Sum.inr p.1, Sum.inr p.2]
def apK (ap : ApL) : List (List Key × V) := ap.map fun z => (kz z.1, V.int z.2)
def mkz (p q : Part) : (Str × Str) × Int := ((p.1, q.1), p.2 - q.2)
def ApOk (rx ry : Row) (ap : ApL) : Prop := ∀ y, y ∈ ap ↔ ∃ p ∈ rx, ∃ q ∈ ry, y = mkz p q
def rAp : Rep ApL := fun H v ap => ∃ a od, v = .ref a ∧ H a = some (.frz od (.dT (apK ap)))
instance : Mono rAp := ⟨fun k ⟨a, od, e, h⟩ => ⟨a, od, e, k _ _ trivial h⟩⟩
theorem kz_inj {p q : Str × Str} (h : kz p = kz q) : p = q := by
  unfold kz at h
  injection h with h1 h2
  injection h2 with h3 _
  injection h1 with h1
  injection h3 with h3
  exact Prod.ext h1 h3
theorem kz_tup (p : Str × Str) : (kz p).map kV = [V.str p.1, V.str p.2] := rfl
theorem apK_len (ap : ApL) : (apK ap).length = ap.length := List.length_map _
/-- one more pair, or the same again -/
theorem put_ap {ap : ApL} {z : (Str × Str) × Int} (h : ∀ y ∈ ap, y.1 = z.1 → y = z) : ∃ ap2, putK (apK ap) (kz z.1) (.int z.2) = apK ap2 ∧ (∀ y, y ∈ ap2 ↔ y ∈ ap ∨ y = z) ∧ ap2.length ≤ ap.length + 1 := by
  by_cases e : ((apK ap).any fun kv => decide (kv.1 = kz z.1)) = true
  · refine ⟨ap, ?_, fun y => ⟨.inl, fun q => q.elim id fun q => ?_⟩, Nat.le_succ _⟩
    · unfold putK
      rw [if_pos e]
      unfold apK
      rw [List.map_map]
      refine List.map_congr_left fun y hy => ?_
      show (if kz y.1 = kz z.1 then (kz y.1, V.int z.2) else (kz y.1, V.int y.2)) = (kz y.1, V.int y.2)
      split
      · rename_i q
        rw [h y hy (kz_inj q)]
      · rfl
    · obtain ⟨kv, hkv, ek⟩ := List.any_eq_true.mp e
      obtain ⟨x, hx, rfl⟩ := List.mem_map.mp hkv
      have := h x hx (kz_inj (of_decide_eq_true ek))
      rw [q, ← this]
      exact hx
  · refine ⟨ap ++ [z], ?_, fun y => by simp, by simp⟩
    unfold putK
    rw [if_neg e]
    unfold apK
    rw [List.map_append]
    rfl
theorem valT {ap : ApL} {z : (Str × Str) × Int} (hz : z ∈ ap) (h : ∀ y ∈ ap, y.1 = z.1 → y = z) : valV (apK ap) (kz z.1) = some (.int z.2) := by
  induction ap with
  | nil => cases hz
  | cons y r ih =>
    show valV ((kz y.1, V.int y.2) :: apK r) (kz z.1) = _
    by_cases e : kz y.1 = kz z.1
    · rw [valV_pos e, h y List.mem_cons_self (kz_inj e)]
    · rw [valV_neg e]
      rcases List.mem_cons.mp hz with q | hz
      · exact absurd (by rw [q]) e
      · exact ih hz fun x hx => h x (List.mem_cons_of_mem _ hx)
theorem row_uniq {r : Row} (nd : (keys r).Nodup) {p q : Part} (hp : p ∈ r) (hq : q ∈ r) (e : p.1 = q.1) : p = q := by
  have h1 := lk_of_mem (k := p.1) (v := p.2) nd hp
  have h2 := lk_of_mem (k := q.1) (v := q.2) nd hq
  rw [e, h2] at h1
  exact Prod.ext e (Option.some.inj h1).symm
theorem mkz_uniq {rx ry : Row} (nx : (keys rx).Nodup) (ny : (keys ry).Nodup) {p p' q q' : Part} (hp : p ∈ rx) (hp' : p' ∈ rx) (hq : q ∈ ry) (hq' : q' ∈ ry) (e : (mkz p q).1 = (mkz p' q').1) : mkz p q = mkz p' q' := by
  have e1 : p.1 = p'.1 := by have h := congrArg Prod.fst e; exact h
  have e2 : q.1 = q'.1 := by have h := congrArg Prod.snd e; exact h
  rw [row_uniq nx hp hp' e1, row_uniq ny hq hq' e2]
/-- a dict of pairs is made, turn by turn -/
theorem dcT_m {α : Type} {J : It} {l : List α} {G : Hp → Prop} {Y : α → Hp → V → Hp → Prop} (w : WalkD J l G Y) {g : TG} {tt : TT} {tk tv : TE} {vs : List Nat} {σ : L2.St} {H1 : Hp} {D : Addr} {Qd : Hp → Prop} (Pv : List α → Hp → Prop)
    (h0 : Pv [] (upd H1 D (.dT []))) (hG : ∀ d H, Pv d H → G H)
    (hs : ∀ d a r x H H', l = d ++ a :: r → Pv d H → Y a H x H' → g x (wipe σ vs) H' fun σ2 H2 => wipe σ2 vs = wipe σ vs ∧ tt σ2 H2 fun b H3 =>
      if b = true then tk σ2 H3 fun y H4 => tv σ2 H4 fun z H5 => ∃ kvs k b, y = .ref b ∧ H5 b = some (.tup (k.map kV)) ∧ H5 D = some (.dT kvs) ∧ kvs.length < sizeLine ∧ Pv (d ++ [a]) (upd H5 D (.dT (putK kvs k z))) else Pv (d ++ [a]) H3)
    (hd : ∀ H, Pv l H → Qd H) :
    ∃ W : Nat → Nat → Hp → Prop, (∃ m, W 0 m (upd H1 D (.dT []))) ∧ ∀ i m H, W i m H →
      (J.stop i H ∧ Qd H) ∨ (J.go i H ∧ ∃ Nx : Hp → Prop, (∀ H', Nx H' → ∃ m', m' < m ∧ W (i + 1) m' H') ∧ ∀ x H', J.yld i H x H' → g x (wipe σ vs) H' fun σ2 H2 => wipe σ2 vs = wipe σ vs ∧ tt σ2 H2 fun b H3 =>
        if b = true then tk σ2 H3 fun y H4 => tv σ2 H4 fun z H5 => ∃ kvs k b, y = .ref b ∧ H5 b = some (.tup (k.map kV)) ∧ H5 D = some (.dT kvs) ∧ kvs.length < sizeLine ∧ Nx (upd H5 D (.dT (putK kvs k z))) else Nx H3) := by
  refine ⟨fun i m' H => m' = l.length - i ∧ i ≤ l.length ∧ Pv (l.take i) H, ⟨l.length, by simp, Nat.zero_le _, by simpa using h0⟩, ?_⟩
  rintro i m' H ⟨rfl, hi, q⟩
  by_cases hlt : i < l.length
  · refine .inr ⟨w.goes i H hlt (hG _ H q), Pv (l.take (i + 1)), fun H' q' => ⟨l.length - (i + 1), by omega, rfl, hlt, q'⟩, fun x H' y => ?_⟩
    obtain ⟨a, e, y⟩ := w.yields i H x H' hlt (hG _ H q) y
    obtain ⟨e1, e2⟩ := take_at e
    have z := hs (l.take i) a (l.drop (i + 1)) x H H' (by rw [← e2, List.take_append_drop]) q y
    rw [← e1] at z
    exact z
  · have e : i = l.length := by omega
    subst e
    rw [List.take_length] at q
    exact .inl ⟨w.stops H (hG _ H q), hd H q⟩
/-- slots: 0 self, 1 x, 2 y, 3 found*, 4 s, 5 a, 6 t, 7 b, 8 pair -/
abbrev N_Form_apart : List Str := [Str.ofString "self", Str.ofString "x", Str.ofString "y", Str.ofString "found", Str.ofString "s", Str.ofString "a", Str.ofString "t", Str.ofString "b", Str.ofString "pair"]
theorem sc_Form_apart : FnScope N_Form_apart [Str.ofString "self", Str.ofString "x", Str.ofString "y"] (defScope s_Form_apart) := ⟨rfl, rfl, rfl, by decide +kernel, rfl, by decide +kernel, by decide +kernel⟩
def S_Form_apart (K : PySem.W.Frag) : Sq := fun vs H Q => ∃ (v : V) (x y : Str) (F : Fm) (S : List Str), vs = [v, .str x, .str y] ∧ rFm K H v F ∧ WfF S F ∧ Nm (keys F.table) x ∧ Nm (keys F.table) y ∧
  ∀ v' ap H', Same H H' → rAp H' v' ap → ApOk (dictOf F.table x) (dictOf F.table y) ap → ap.length ≤ 64 → Q v' H'
theorem r_Form_apart (T : Tx K mg) (c_Form_getitem : CalF P w K mg base 2 (cF K) "__getitem__" (S_Form_dict_of K)) : FnR P w K mg base CX0 4 (a_Form_apart K) (sp (S_Form_apart K)) := by
  refine fr_of (S := (S_Form_apart K)) (N := N_Form_apart) (f_Form_apart T) sc_Form_apart (fun vs H Q h => by first | (obtain ⟨rfl, _⟩ := h; rfl) | (obtain ⟨_, rfl, _⟩ := h; rfl) | (obtain ⟨_, _, rfl, _⟩ := h; rfl) | (obtain ⟨_, _, _, rfl, _⟩ := h; rfl) | (obtain ⟨_, _, _, _, rfl, _⟩ := h; rfl) | (obtain ⟨_, _, _, _, _, rfl, _⟩ := h; rfl) | (obtain ⟨_, _, _, _, _, _, rfl, _⟩ := h; rfl) | (obtain ⟨_, _, _, _, _, _, _, rfl, _⟩ := h; rfl) | (obtain ⟨_, _, _, _, _, _, _, _, rfl, _⟩ := h; rfl) | (obtain ⟨_, _, _, _, _, _, _, _, _, rfl, _⟩ := h; rfl) | (obtain ⟨_, _, _, _, _, _, _, _, _, _, rfl, _⟩ := h; rfl) | (obtain ⟨_, _, _, _, _, _, _, _, _, _, _, rfl, _⟩ := h; rfl) | (obtain ⟨_, _, _, _, _, _, _, _, _, _, _, _, rfl, _⟩ := h; rfl) | (obtain ⟨_, _, _, _, _, _, _, _, _, _, _, _, _, rfl, _⟩ := h; rfl) | (obtain ⟨_, _, _, _, _, _, _, _, _, _, _, _, _, _, rfl, _⟩ := h; rfl) | (obtain ⟨_, _, _, _, _, _, _, _, _, _, _, _, _, _, _, rfl, _⟩ := h; rfl) | (obtain ⟨_, _, _, _, _, _, _, _, _, _, _, _, _, _, _, _, rfl, _⟩ := h; rfl)) (fun _ _ _ _ _ _ us hl => match us, hl with | [_, _, _], _ => rfl) (fun cdv A outer s H vs Q E hr h => ?_)
  obtain ⟨v, x, y, F, S, rfl, hF, wf, hx, hy, q⟩ := h
  obtain ⟨fa, rfl, dx, k, p, r, t, hfa, _⟩ := id hF
  refine ⟨_, (pss_cons (ps_set (i := 3) sc_Form_apart.nd rfl (.inr rfl) pe_dnewT)
      (pss_cons (ps_for PassesOwn.never rfl (pi_items (pgetF c_Form_getitem hr (by decide) (pv 0) (pv 1))) (pgTup (n := 2) K rfl rfl (pgs_cons (pg_name (i := 4) sc_Form_apart.nd rfl (.inl rfl)) (pgs_cons (pg_name (i := 5) sc_Form_apart.nd rfl (.inl rfl)) pgs_nil))) (pss_one (ps_for PassesOwn.never rfl (pi_items (pgetF c_Form_getitem hr (by decide) (pv 0) (pv 2))) (pgTup (n := 2) K rfl rfl (pgs_cons (pg_name (i := 6) sc_Form_apart.nd rfl (.inl rfl)) (pgs_cons (pg_name (i := 7) sc_Form_apart.nd rfl (.inl rfl)) pgs_nil))) (pss_one (ps_dput (hu_of hr) (pv 3) (pe_tup (pa_cons (pv 4) (pa_cons (pv 6) pa_nil))) (pe_op op_sub (pv 5) (pv 7)) rfl)))))
      (pss_one (ps_ret (pe_fz (pe_dcT (hu_of hr) (own := [("pair", 8)]) (g := gName 8) rfl sc_Form_apart.nd (piList K rfl (pe_callB (call_sortedDT rfl) rfl (n_sorted T) (by decide +kernel) (pa_cons (pv 3) pa_nil))) (blkOk_by (own := [("pair", 8)]) (N := N_Form_apart) (sc := defScope s_Form_apart) (by decide +kernel)) (fun _ _ _ _ _ => (pg_name (i := 8) sc_Form_apart.nd rfl (.inl rfl))) (fun _ _ _ _ _ => pts_nil) (fun _ _ _ _ _ => (pv 8)) (fun _ _ _ _ _ => (pe_dget (hu_of hr) (pv 3) (pv 8) (fun _ _ => rfl))))))))), ?_⟩
  have hdx := wf.dict hx
  have hdy := wf.dict hy
  have hlx := wf.dlen hx
  have hly := wf.dlen hy
  have getx := fun (z : Str) (hz : Nm (keys F.table) z) => hz
  generalize erx : dictOf F.table x = rx at hdx hlx q
  generalize ery : dictOf F.table y = ry at hdy hly q
  intro f hf
  have s0 : Same H (upd H f (.dT [])) := same_new hf
  have hf0 : (upd H f (.dT [])) f = some (.dT []) := upd_same
  generalize upd H f (.dT []) = H1 at s0 hf0 ⊢
  refine ⟨_, rfl, _, rfl, fa, dx, _, rfl, s0 _ _ hfa, _, F, x, rfl, mo (kp_of s0) hF, hx, fun v1 H2 s1 hv1 => ?_⟩
  rw [erx] at hv1
  obtain ⟨xa, xod, xkvs, rfl, hxa, xdp⟩ := hv1
  have sA := s0.trans s1
  refine ⟨xa, xod, xkvs, rfl, hxa, ?_⟩
  refine for_d (wd_items xdp) (fun (dn : Row) (σ : L2.St) (H' : Hp) => ∃ (y4 y5 y6 y7 : Option V), σ = [some (V.ref fa), some (V.str x), some (V.str y), some (V.ref f), y4, y5, y6, y7, none] ∧ Same H H' ∧ Keep H2 H' ∧
      ∃ ap, H' f = some (.dT (apK ap)) ∧ ApOk dn ry ap ∧ ap.length ≤ 8 * dn.length) ?_ ?_ ?_ ?_
  · exact ⟨_, _, _, _, rfl, sA, Keep.refl _, [], s1 _ _ hf0, fun z => by simp, Nat.zero_le _⟩
  · rintro dn σ H' ⟨_, _, _, _, _, _, k2, _⟩
    exact k2 _ _ trivial hxa
  · rintro dn a rr v2 σ H3 H' el ⟨y4, y5, y6, y7, rfl, s3, k3, ap, hf3, hap, hl⟩ ⟨t1, av, rfl, ht1, rfl, rfl⟩
    have hax : a ∈ rx := by rw [el]; simp
    have hdn : dn.length < 8 := by
      have := congrArg List.length el
      rw [List.length_append, List.length_cons] at this
      omega
    have hdnx : ∀ z ∈ dn, z ∈ rx := fun z hz => by rw [el]; exact List.mem_append_left _ hz
    have st1 : Same H3 (upd H3 t1 (.tup [V.str a.1, V.int a.2])) := same_new ht1
    refine ⟨t1, _, rfl, .inl (.inl upd_same), rfl, _, _, rfl, _, _, rfl, rfl, ?_⟩
    have s4 := s3.trans st1
    have k4 := k3.trans (kp_of st1)
    have hf4 := st1 _ _ hf3
    generalize upd H3 t1 (.tup [V.str a.1, V.int a.2]) = H4 at s4 k4 hf4 ⊢
    refine ⟨_, rfl, _, rfl, fa, dx, _, rfl, s4 _ _ hfa, _, F, y, rfl, mo (kp_of s4) hF, hy, fun v3 H5 s5 hv3 => ?_⟩
    rw [ery] at hv3
    obtain ⟨ya, yod, ykvs, rfl, hya, ydp⟩ := hv3
    refine ⟨ya, yod, ykvs, rfl, hya, ?_⟩
    refine for_d (wd_items ydp) (fun (en : Row) (σ : L2.St) (H' : Hp) => ∃ (y6 y7 : Option V), σ = [some (V.ref fa), some (V.str x), some (V.str y), some (V.ref f), some (V.str a.1), some (V.int a.2), y6, y7, none] ∧ Same H H' ∧ Keep H2 H' ∧ Keep H5 H' ∧
      ∃ ap2, H' f = some (.dT (apK ap2)) ∧ (∀ z, z ∈ ap2 ↔ z ∈ ap ∨ ∃ q ∈ en, z = mkz a q) ∧ ap2.length ≤ ap.length + en.length) ?_ ?_ ?_ ?_
    · exact ⟨_, _, rfl, s4.trans s5, k4.trans (kp_of s5), Keep.refl _, ap, s5 _ _ hf4, fun z => by simp, Nat.le_refl _⟩
    · rintro en σ H' ⟨_, _, _, _, _, k5, _⟩
      exact k5 _ _ trivial hya
    · rintro en b rr2 v4 σ H6 H' el2 ⟨y6, y7, rfl, s6, k6, k56, ap2, hf6, hap2, hl2⟩ ⟨t2, bv, rfl, ht2, rfl, rfl⟩
      have hby : b ∈ ry := by rw [el2]; simp
      have hen : en.length < 8 := by
        have := congrArg List.length el2
        rw [List.length_append, List.length_cons] at this
        omega
      have st2 : Same H6 (upd H6 t2 (.tup [V.str b.1, V.int b.2])) := same_new ht2
      refine ⟨t2, _, rfl, .inl (.inl upd_same), rfl, _, _, rfl, _, _, rfl, rfl, ?_⟩
      have s7 := s6.trans st2
      have k7 := k6.trans (kp_of st2)
      have k57 := k56.trans (kp_of st2)
      have hf7 := st2 _ _ hf6
      generalize upd H6 t2 (.tup [V.str b.1, V.int b.2]) = H7 at s7 k7 k57 hf7 ⊢
      refine ⟨_, rfl, _, rfl, _, _, rfl, rfl, _, rfl, _, rfl, _, rfl, ln2, fun t3 ht3 => ?_⟩
      have st3 : Same H7 (upd H7 t3 (.tup [V.str a.1, V.str b.1])) := same_new ht3
      have ht3' : (upd H7 t3 (.tup [V.str a.1, V.str b.1])) t3 = some (.tup ((kz (a.1, b.1)).map kV)) := upd_same
      have hf8 := st3 _ _ hf7
      have s8 := s7.trans st3
      have k8 := k7.trans (kp_of st3)
      have k58 := k57.trans (kp_of st3)
      generalize upd H7 t3 (.tup [V.str a.1, V.str b.1]) = H8 at s8 k8 k58 hf8 ht3' ⊢
      have huq : ∀ z ∈ ap2, z.1 = (mkz a b).1 → z = mkz a b := fun z hz e => by
        rcases (hap2 z).mp hz with h | ⟨q0, hq0, rfl⟩
        · obtain ⟨p0, hp0, q0, hq0, rfl⟩ := (hap z).mp h
          exact mkz_uniq hdx.1 hdy.1 (hdnx p0 hp0) hax hq0 hby e
        · exact mkz_uniq hdx.1 hdy.1 hax hax (by rw [el2]; exact List.mem_append_left _ hq0) hby e
      obtain ⟨ap3, e3, h3, l3⟩ := put_ap huq
      have kF : Keep H8 (upd H8 f (.dT (putK (apK ap2) (kz (a.1, b.1)) (.int (a.2 - b.2))))) := kp_mut hf8 (fun z => z)
      refine ⟨f, _, rfl, .inr ⟨_, kz (a.1, b.1), t3, hf8, rfl, ht3', by rw [apK_len]; exact big (by omega), rfl⟩, _, _, rfl, Same.mut s8 hf, k8.trans kF, k58.trans kF, ap3, ?_, fun z => ?_, ?_⟩
      · rw [upd_same]
        exact congrArg (fun u => some (HO.dT u)) e3
      · rw [h3, hap2]
        simp only [List.mem_append, List.mem_singleton]
        constructor
        · rintro ((h | ⟨q0, hq0, e⟩) | e)
          · exact .inl h
          · exact .inr ⟨q0, .inl hq0, e⟩
          · exact .inr ⟨b, .inr rfl, e⟩
        · rintro (h | ⟨q0, hq0 | hq0, e⟩)
          · exact .inl (.inl h)
          · exact .inl (.inr ⟨q0, hq0, e⟩)
          · exact .inr (by rw [e, hq0])
      · rw [List.length_append]; simp only [List.length_singleton]; omega
    · rintro σ H6 ⟨y6, y7, rfl, s6, k6, k56, ap2, hf6, hap2, hl2⟩
      refine ⟨_, _, _, _, rfl, s6, k6, ap2, hf6, fun z => ?_, ?_⟩
      · rw [hap2, hap]
        constructor
        · rintro (⟨p0, hp0, q0, hq0, e⟩ | ⟨q0, hq0, e⟩)
          · exact ⟨p0, List.mem_append_left _ hp0, q0, hq0, e⟩
          · exact ⟨a, by simp, q0, hq0, e⟩
        · rintro ⟨p0, hp0, q0, hq0, e⟩
          rcases List.mem_append.mp hp0 with h | h
          · exact .inl ⟨p0, h, q0, hq0, e⟩
          · rw [List.mem_singleton.mp h] at e
            exact .inr ⟨q0, hq0, e⟩
      · rw [List.length_append]; simp only [List.length_singleton]; omega
  · rintro σ H3 ⟨y4, y5, y6, y7, rfl, s3, k3, ap, hf3, hap, hl⟩
    have huq : ∀ z ∈ ap, ∀ y ∈ ap, y.1 = z.1 → y = z := fun z hz y hy e => by
      obtain ⟨p0, hp0, q0, hq0, rfl⟩ := (hap z).mp hz
      obtain ⟨p1, hp1, q1, hq1, rfl⟩ := (hap y).mp hy
      exact mkz_uniq hdx.1 hdy.1 hp1 hp0 hq1 hq0 e
    refine ⟨_, rfl, f, apK ap, rfl, .inl hf3, fun kv hkv => ?_, fun bs cs p0 hp0 hbs pc => ?_⟩
    · obtain ⟨z, _, rfl⟩ := List.mem_map.mp hkv
      exact ⟨z.1.1, z.1.2, rfl⟩
    have sp0 : Same H3 (upd H3 p0 (.lst (cs.map V.ref))) := same_new hp0
    have hp1 : (upd H3 p0 (.lst (cs.map V.ref))) p0 = some (.lst (cs.map V.ref)) := upd_same
    have hf4 := sp0 _ _ hf3
    have hkc : ∀ c ∈ cs, ∃ z ∈ ap, H3 c = some (.tup ((kz z.1).map kV)) := fun c hc => by
      obtain ⟨j, hj⟩ := List.mem_iff_getElem?.mp (pc.mem_iff.mp hc)
      obtain ⟨kv, hkv, e⟩ := Paired.at' hbs hj
      obtain ⟨z, hz, rfl⟩ := List.mem_map.mp (List.mem_of_getElem? hkv)
      exact ⟨z, hz, e⟩
    have hck : ∀ z ∈ ap, ∃ c ∈ cs, H3 c = some (.tup ((kz z.1).map kV)) := fun z hz => by
      obtain ⟨j, hj⟩ := List.mem_iff_getElem?.mp (show (kz z.1, V.int z.2) ∈ apK ap from List.mem_map.mpr ⟨z, hz, rfl⟩)
      obtain ⟨c, hc, e⟩ := Paired.at hbs hj
      exact ⟨c, pc.mem_iff.mpr (List.mem_of_getElem? hc), e⟩
    have hcl : cs.length = ap.length := by
      rw [pc.length_eq, ← Paired.length hbs, apK_len]
    have kcs : Keep H3 (upd H3 p0 (.lst (cs.map V.ref))) := kp_of sp0
    generalize upd H3 p0 (.lst (cs.map V.ref)) = H4 at sp0 hp1 hf4 kcs ⊢
    refine ⟨p0, rfl, ⟨_, .inl (.inl hp1)⟩, fun D hD => ?_⟩
    have pcs : Paired (fun (u : V) (c : Addr) => u = V.ref c) (cs.map V.ref) cs := by
      clear hkc hck hcl pc hp1
      induction cs with
      | nil => exact .nil
      | cons c r ih => exact .cons rfl ih
    refine dcT_m (wd_list pcs) (fun (dn : List Addr) (H' : Hp) => Same H4 H' ∧ ∃ ap2, H' D = some (.dT (apK ap2)) ∧ (∀ z ∈ ap2, z ∈ ap) ∧ (∀ c ∈ dn, ∀ z ∈ ap, H3 c = some (.tup ((kz z.1).map kV)) → z ∈ ap2) ∧ ap2.length ≤ dn.length) ?_ ?_ ?_ ?_
    · exact ⟨same_new hD, [], upd_same, fun z hz => absurd hz (List.not_mem_nil), fun c hc => absurd hc (List.not_mem_nil), Nat.le_refl _⟩
    · rintro dn H' ⟨s, _⟩
      exact .inl (.inl (s _ _ hp1))
    · rintro dn c rr x5 H5 H' el ⟨s5, ap2, hD5, h1, h2, hl2⟩ ⟨rfl, rfl⟩
      have hcc : c ∈ cs := by rw [el]; simp
      obtain ⟨z, hz, hzc⟩ := hkc c hcc
      have hzc5 := s5 _ _ (sp0 _ _ hzc)
      have hdn : dn.length < cs.length := by
        have := congrArg List.length el
        rw [List.length_append, List.length_cons] at this
        omega
      obtain ⟨ap3, e3, h3, l3⟩ := put_ap (ap := ap2) (z := z) fun y hy e => huq z hz y (h1 y hy) e
      refine ⟨rfl, yes ⟨_, rfl, _, rfl, _, rfl, f, _, rfl, .inr ⟨apK ap, kz z.1, c, .inl (s5 _ _ hf4), rfl, hzc5, (valT hz (huq z hz)).symm⟩, ?_⟩⟩
      have hl3 : cs.length ≤ 64 := by rw [hcl]; omega
      refine ⟨apK ap2, kz z.1, c, rfl, hzc5, hD5, by rw [apK_len]; exact big (by omega), Same.mut s5 hD, ap3, ?_, fun y hy => ?_, fun c2 hc2 y hy hyc => ?_, ?_⟩
      · rw [upd_same]
        exact congrArg (fun u => some (HO.dT u)) e3
      · rcases (h3 y).mp hy with h | h
        · exact h1 y h
        · rw [h]; exact hz
      · refine (h3 y).mpr ?_
        rcases List.mem_append.mp hc2 with h | h
        · exact .inl (h2 c2 h y hy hyc)
        · rw [List.mem_singleton.mp h, hzc] at hyc
          have e : kz z.1 = kz y.1 := by
            have := congrArg (fun o : Option HO => match o with | some (.tup xs) => xs | _ => []) hyc
            have h4 : (kz z.1).map kV = (kz y.1).map kV := this
            rw [kz_tup, kz_tup] at h4
            injection h4 with h5 h6
            injection h6 with h6 _
            injection h5 with h5
            injection h6 with h6
            unfold kz
            rw [h5, h6]
          exact .inr (huq z hz y hy (kz_inj e).symm)
      · rw [List.length_append]; simp only [List.length_singleton]; omega
    · rintro H5 ⟨s5, ap2, hD5, h1, h2, hl2⟩
      refine ⟨D, _, rfl, hD5, trivial, fun od => ?_⟩
      have sF := (s3.trans sp0).trans s5
      refine q _ ap2 _ (Same.mut sF ((s3.trans sp0).free hD)) ⟨D, od, rfl, upd_same⟩ (fun z => ?_) (by omega)
      rw [← hap]
      exact ⟨h1 z, fun hz => let ⟨c, hc, e⟩ := hck z hz; h2 c hc z hz e⟩
end Fp

/-! ## FpPlay2 -/
set_option Elab.async false
set_option linter.all false
set_option maxRecDepth 100000
set_option maxHeartbeats 2000000
namespace Fp
open PySem PySem.Spec PyProof.Rows L2
variable {P : Program} {w : World} {K : PySem.W.Frag} {mg : Str → Option Value} {base : Heap}
/-! ### Form == Form, of the same content -/
theorem insForm (T : Tx K mg) : C8.InsC K (He.ga K "Form") := let ⟨i, k⟩ := i_Form T; ⟨c_Form T, i.ca, i.cn, i.ct, i.cm, k⟩
theorem eqDic_of {α : Type} {R : Rep α} {Y : V → V → Prop} {H : Hp} {c d : Addr} {o1 o2 : Obj} {ks ls : List (Key × V)} {t : List (Str × α)} (hc : H c = some (.frz o1 (.dK ks))) (hd : H d = some (.frz o2 (.dK ls))) (p1 : DicP R H ks t) (p2 : DicP R H ls t) (nd : (keys t).Nodup)
    (h : ∀ x z k a, (k, a) ∈ t → R H x a → R H z a → Y x z) : EqDic Y H c d := by
  refine ⟨ks, ls, .inr ⟨o1, hc⟩, .inr ⟨o2, hd⟩, by rw [p1.len, p2.len], fun p hp => ?_⟩
  obtain ⟨j, hj⟩ := List.mem_iff_getElem?.mp hp
  obtain ⟨b, hb, e, r⟩ := Paired.at p1 hj
  have hm := List.mem_of_getElem? hb
  obtain ⟨z, ez, rz⟩ := p2.some (lk_of_mem (k := b.1) (v := b.2) nd hm)
  exact ⟨z, by rw [e]; exact ez, h _ _ b.1 b.2 hm r rz⟩
theorem eq0_str (a : Str) : Eq0 (.str a) (.str a) := ⟨rfl, rfl, by show (a == a) = true; exact beq_self_eq_true a⟩
theorem eq0_int (a : Int) : Eq0 (.int a) (.int a) := ⟨rfl, rfl, by show (a == a) = true; exact beq_self_eq_true a⟩
/-- slots: 0 self, 1 other -/
abbrev N_Form_eq : List Str := [Str.ofString "self", Str.ofString "other"]
theorem sc_Form_eq : FnScope N_Form_eq [Str.ofString "self", Str.ofString "other"] (defScope s_Form_eq) := ⟨rfl, rfl, rfl, by decide +kernel, rfl, by decide +kernel, by decide +kernel⟩
def S_Form_eq (K : PySem.W.Frag) : Sq := fun vs H Q => ∃ (v u : V) (F : Fm) (S : List Str), vs = [v, u] ∧ rFm K H v F ∧ rFm K H u F ∧ WfF S F ∧ (keys F.kinds).Nodup ∧ Q (.bl true) H
theorem r_Form_eq (T : Tx K mg) : FnR P w K mg base CX0 1 (a_Form_eq K) (sp (S_Form_eq K)) := by
  refine fr_of (S := (S_Form_eq K)) (N := N_Form_eq) (f_Form_eq T) sc_Form_eq (fun vs H Q h => by first | (obtain ⟨rfl, _⟩ := h; rfl) | (obtain ⟨_, rfl, _⟩ := h; rfl) | (obtain ⟨_, _, rfl, _⟩ := h; rfl) | (obtain ⟨_, _, _, rfl, _⟩ := h; rfl) | (obtain ⟨_, _, _, _, rfl, _⟩ := h; rfl) | (obtain ⟨_, _, _, _, _, rfl, _⟩ := h; rfl) | (obtain ⟨_, _, _, _, _, _, rfl, _⟩ := h; rfl) | (obtain ⟨_, _, _, _, _, _, _, rfl, _⟩ := h; rfl) | (obtain ⟨_, _, _, _, _, _, _, _, rfl, _⟩ := h; rfl) | (obtain ⟨_, _, _, _, _, _, _, _, _, rfl, _⟩ := h; rfl) | (obtain ⟨_, _, _, _, _, _, _, _, _, _, rfl, _⟩ := h; rfl) | (obtain ⟨_, _, _, _, _, _, _, _, _, _, _, rfl, _⟩ := h; rfl) | (obtain ⟨_, _, _, _, _, _, _, _, _, _, _, _, rfl, _⟩ := h; rfl) | (obtain ⟨_, _, _, _, _, _, _, _, _, _, _, _, _, rfl, _⟩ := h; rfl) | (obtain ⟨_, _, _, _, _, _, _, _, _, _, _, _, _, _, rfl, _⟩ := h; rfl) | (obtain ⟨_, _, _, _, _, _, _, _, _, _, _, _, _, _, _, rfl, _⟩ := h; rfl) | (obtain ⟨_, _, _, _, _, _, _, _, _, _, _, _, _, _, _, _, rfl, _⟩ := h; rfl)) (fun _ _ _ _ _ _ us hl => match us, hl with | [_, _], _ => rfl) (fun cdv A outer s H vs Q E hr h => ?_)
  obtain ⟨v, u, F, S, rfl, hF, hG, wf, ndk, q⟩ := h
  obtain ⟨a, rfl, dx, k, p, r, t, ha, hk, hp, hr', ht⟩ := id hF
  obtain ⟨b, rfl, dy, k2, p2, r2, t2, hb, hk2, hp2, hr2, ht2⟩ := id hG
  refine ⟨_, (pss_cons (ps_if (pt_not (pt_val (pe_callB (C8.call_isC (insForm T)) rfl (n_isinstance T) (by decide +kernel) (pa_cons (pv 1) (pa_cons (pe_glob (v := .ref (He.ga K "Form")) rfl (g_Form T) rfl) pa_nil))))) (pss_one (ps_ret pe_bl)) pss_nil)
      (pss_one (ps_ret (pe_and (pe_cmpR (op_eqT hr) (peFld K rfl (pv 0)) (peFld K rfl (pv 1)) (nomark _)) (pe_one (pe_cmpR (op_eqT hr) (peFld K rfl (pv 0)) (peFld K rfl (pv 1)) (nomark _))))))), ?_⟩
  obtain ⟨ka, ko, kks, rfl, hka, kdp⟩ := hk
  obtain ⟨kb, ko2, kks2, rfl, hkb, kdp2⟩ := hk2
  obtain ⟨ta, tao, tks, rfl, hta, tdp⟩ := ht
  obtain ⟨tb, tbo, tks2, rfl, htb, tdp2⟩ := ht2
  have e1 : EqDic Eq0 H ka kb := eqDic_of hka hkb kdp kdp2 ndk fun x z _ a _ h1 h2 => by
    rw [show x = .str a from h1, show z = .str a from h2]
    exact eq0_str a
  have e2 : EqDic (Eq1 H) H ta tb := eqDic_of hta htb tdp tdp2 wf.nd fun x z n a hm ⟨c, o, cs, ec, hc, dpc⟩ ⟨d, o2, ds, ed, hd, dpd⟩ =>
    ⟨c, d, ec, ed, eqDic_of hc hd dpc dpd (wf.row n a (lk_of_mem wf.nd hm)).1 fun x z _ a _ h1 h2 => by
      rw [show x = .int a from h1, show z = .int a from h2]
      exact eq0_int a⟩
  refine ⟨_, rfl, b, dy, _, rfl, hb, true, rfl, iteF ?_⟩
  refine ⟨_, rfl, a, _, dx, _, _, rfl, ha, c_Form T, no_its_kinds T, ff_k, _, rfl, b, _, dy, _, _, rfl, hb, c_Form T, no_its_kinds T, ff_k, ka, kb, rfl, rfl, .inl e1, true, rfl, iteT ?_⟩
  exact ⟨_, rfl, a, _, dx, _, _, rfl, ha, c_Form T, no_its_table T, ff_t, _, rfl, b, _, dy, _, _, rfl, hb, c_Form T, no_its_table T, ff_t, ta, tb, rfl, rfl, .inr e2, q⟩
/-! ### played -/
/-- slots: 0 program, 1 moment, 2 start, 3 name, 4 place, 5 form -/
abbrev N_played : List Str := [Str.ofString "program", Str.ofString "moment", Str.ofString "start", Str.ofString "name", Str.ofString "place", Str.ofString "form"]
theorem sc_played : FnScope N_played [Str.ofString "program", Str.ofString "moment", Str.ofString "start"] (defScope s_played) := ⟨rfl, rfl, rfl, by decide +kernel, rfl, by decide +kernel, by decide +kernel⟩
def S_played (K : PySem.W.Frag) : Sq := fun vs H Q => ∃ (g mv sv : V) (first : Str) (pg : Pg) (M : Mom) (st : Row), vs = [g, mv, sv] ∧ rPg K H g (first, pg) ∧ OkPg pg ∧ first ∈ keys pg ∧ rMom 4 H mv M ∧ WMom pg 4 M first ∧ rDic rInt H sv st ∧ StOk (e0 :: (prOf pg first).params) st ∧
  ∀ (a : Addr) (pl : Int) (nv : V) nu H', Same H H' → H' a = some (.tup [.str (momF pg 4 first (begin_ (prOf pg first)) M).1, .int pl, nv]) → rDic rInt H' nv nu → NumOk st (momF pg 4 first (begin_ (prOf pg first)) M).2 nu → Q (.ref a) H'
theorem mom_ok {pg : Pg} (ok : OkPg pg) : ∀ {M : Mom} {S : List Str} {ks0 : List (Str × Str)} {f : Str} {F : Fm}, f ∈ keys pg → FOk S ks0 (prOf pg f) F → WMom pg 4 M f → (momF pg 4 f F M).1 ∈ keys pg ∧ FOk S ks0 (prOf pg (momF pg 4 f F M).1) (momF pg 4 f F M).2
  | .last pre, S, ks0, f, F, hf, h, hw => ⟨hf, run_ok ok hf pre F hw h⟩
  | .inn pre i m, S, ks0, f, F, hf, h, ⟨hp, x, g, as, rs, hx, hc, hm⟩ => by
    have h1 := run_ok ok hf pre F hp h
    obtain ⟨hg, cf, sin, syn⟩ := ok.call hf hx hc
    obtain ⟨_, okq⟩ := ok.at hg
    have h2 := entered_ok h1 sin cf okq
    have e : momF pg 4 f F (.inn pre i m) = momF pg 4 g (entered_ (pre.foldl (stepF pg 4 f) F) as (prOf pg g)) m := by
      simp only [momF]
      rw [wayS_of hx, hc]
    rw [e]
    exact mom_ok ok hg h2 hm
theorem r_played (T : Tx K mg) (c_form_at : Cal P w K mg base 14 "form_at" (S_form_at K 4)) (c_Form_numbers : CalF P w K mg base 2 (cF K) "numbers" (S_Form_numbers K)) : FnR P w K mg base CX0 15 (a_played K) (sp (S_played K)) := by
  refine fr_of (S := (S_played K)) (N := N_played) (f_played T) sc_played (fun vs H Q h => by first | (obtain ⟨rfl, _⟩ := h; rfl) | (obtain ⟨_, rfl, _⟩ := h; rfl) | (obtain ⟨_, _, rfl, _⟩ := h; rfl) | (obtain ⟨_, _, _, rfl, _⟩ := h; rfl) | (obtain ⟨_, _, _, _, rfl, _⟩ := h; rfl) | (obtain ⟨_, _, _, _, _, rfl, _⟩ := h; rfl) | (obtain ⟨_, _, _, _, _, _, rfl, _⟩ := h; rfl) | (obtain ⟨_, _, _, _, _, _, _, rfl, _⟩ := h; rfl) | (obtain ⟨_, _, _, _, _, _, _, _, rfl, _⟩ := h; rfl) | (obtain ⟨_, _, _, _, _, _, _, _, _, rfl, _⟩ := h; rfl) | (obtain ⟨_, _, _, _, _, _, _, _, _, _, rfl, _⟩ := h; rfl) | (obtain ⟨_, _, _, _, _, _, _, _, _, _, _, rfl, _⟩ := h; rfl) | (obtain ⟨_, _, _, _, _, _, _, _, _, _, _, _, rfl, _⟩ := h; rfl) | (obtain ⟨_, _, _, _, _, _, _, _, _, _, _, _, _, rfl, _⟩ := h; rfl) | (obtain ⟨_, _, _, _, _, _, _, _, _, _, _, _, _, _, rfl, _⟩ := h; rfl) | (obtain ⟨_, _, _, _, _, _, _, _, _, _, _, _, _, _, _, rfl, _⟩ := h; rfl) | (obtain ⟨_, _, _, _, _, _, _, _, _, _, _, _, _, _, _, _, rfl, _⟩ := h; rfl)) (fun _ _ _ _ _ _ us hl => match us, hl with | [_, _, _], _ => rfl) (fun cdv A outer s H vs Q E hr h => ?_)
  obtain ⟨g, mv, sv, first, pg, M, st, rfl, hg, ok, hf, hM, hw, hst, sok, q⟩ := h
  obtain ⟨ef, okf⟩ := ok.at hf
  obtain ⟨hfk, fo⟩ := mom_ok ok hf (begin_ok okf) hw
  refine ⟨_, (pss_cons (ps_asg (pcall c_form_at hr (by decide) rfl (pa_cons (pv 0) (pa_cons (pv 1) pa_nil))) (pgTup (n := 3) K rfl rfl (pgs_cons (pg_name (i := 3) sc_played.nd rfl (.inl rfl)) (pgs_cons (pg_name (i := 4) sc_played.nd rfl (.inl rfl)) (pgs_cons (pg_name (i := 5) sc_played.nd rfl (.inl rfl)) pgs_nil)))))
      (pss_one (ps_ret (pe_tup (pa_cons (pv 3) (pa_cons (pv 4) (pa_cons (pmeth c_Form_numbers hr (by decide) (pv 5) (pa_cons (pv 2) pa_nil)) pa_nil))))))), ?_⟩
  refine ⟨_, rfl, _, rfl, g, mv, first, pg, M, rfl, hg, ok, hf, hM, hw, fun a pl fv H1 s1 ha hfv => ?_⟩
  refine ⟨a, _, rfl, .inl (.inl ha), rfl, _, _, rfl, _, _, rfl, _, _, rfl, rfl, ?_⟩
  obtain ⟨fa, rfl, dx, k, p, r, t, hfa, _⟩ := id hfv
  refine ⟨_, rfl, _, rfl, _, rfl, fa, dx, _, rfl, hfa, ff_no (by decide +kernel), _, rfl, _, _, _, st, _, rfl, hfv, fo.wf, mo (kp_of s1) hst, sok, fun nv nu H2 s2 hnu nok => ⟨ln3, fun t0 ht0 => ?_⟩⟩
  have s3 : Same H2 (upd H2 t0 (.tup [V.str (momF pg 4 first (begin_ (prOf pg first)) M).1, V.int pl, nv])) := same_new ht0
  exact q t0 pl nv nu _ ((s1.trans s2).trans s3) upd_same (mo (kp_of s3) hnu) nok
end Fp

/-! ## FpSteps -/
set_option Elab.async false
set_option linter.all false
set_option maxRecDepth 100000
set_option maxHeartbeats 2000000
namespace Fp
open PySem PySem.Spec PyProof.Rows L2
variable {P : Program} {w : World} {K : PySem.W.Frag} {mg : Str → Option Value} {base : Heap}
/-! ### the Form of each beginning leads on to that of the next -/
def momPre : Mom → List Step
  | .last pre => pre
  | .inn pre _ _ => pre
theorem p_take {α β : Type} {F : α → β → Prop} : ∀ {l : List α} {m : List β} (n : Nat), Paired F l m → Paired F (l.take n) (m.take n)
  | _, _, _, .nil => by rw [List.take_nil, List.take_nil]; exact .nil
  | _, _, 0, .cons _ _ => by rw [List.take_zero, List.take_zero]; exact .nil
  | _, _, n + 1, .cons h t => by rw [List.take_succ_cons, List.take_succ_cons]; exact .cons h (p_take n t)
/-- a moment's list: the steps of a run, and perhaps one more -/
theorem mom_list {n : Nat} {H : Hp} {M : Mom} {xs : List V} (h : rMo n H M xs) : ∃ ys zs, xs = ys ++ zs ∧ Paired (rStep n H) ys (momPre M) ∧ ((M = .last (momPre M) ∧ zs = []) ∨
    ∃ i m a b od us, M = .inn (momPre M) i m ∧ zs = [.ref a] ∧ H a = some (.tup [.str "in", .int (i : Nat), .ref b]) ∧ H b = some (.frz od (.lst us)) ∧ rMo n H m us) := by
  cases M with
  | last pre => exact ⟨xs, [], (List.append_nil _).symm, h, .inl ⟨rfl, rfl⟩⟩
  | inn pre i m =>
    obtain ⟨ys, a, b, od, us, e, p, h1, h2, h3⟩ := h
    exact ⟨ys, _, e, p, .inr ⟨i, m, a, b, od, us, rfl, rfl, h1, h2, h3⟩⟩
theorem wmom_pre {pg : Pg} {n : Nat} {M : Mom} {f : Str} (h : WMom pg n M f) : ∀ s ∈ momPre M, WStep pg n f s := by
  cases M with
  | last pre => exact h
  | inn pre i m => exact h.1
theorem foldl_take_succ {α β : Type} {f : β → α → β} {b : β} {l : List α} {i : Nat} {a : α} (h : l[i]? = some a) : (l.take (i + 1)).foldl f b = f ((l.take i).foldl f b) a := by
  rw [(take_at h).1, List.foldl_append]
  rfl
/-- slots: 0 _law_program_here, 1 _law_moment, 2 _law_many, 3 _law_name, 4 _law_place, 5 _law_form, 6 _law_step, 7 _law_other, 8 _law_statement_here, 9 _law_due -/
abbrev N_l_steps_right : List Str := [Str.ofString "_law_program_here", Str.ofString "_law_moment", Str.ofString "_law_many", Str.ofString "_law_name", Str.ofString "_law_place", Str.ofString "_law_form", Str.ofString "_law_step", Str.ofString "_law_other", Str.ofString "_law_statement_here", Str.ofString "_law_due"]
theorem sc_l_steps_right : FnScope N_l_steps_right [Str.ofString "_law_program_here", Str.ofString "_law_moment"] (defScope s_l_steps_right) := ⟨rfl, rfl, rfl, by decide +kernel, rfl, by decide +kernel, by decide +kernel⟩
def S_steps (K : PySem.W.Frag) : Sq := fun vs H Q => ∃ (g mv : V) (first : Str) (pg : Pg) (M : Mom), vs = [g, mv] ∧ rPg K H g (first, pg) ∧ OkPg pg ∧ first ∈ keys pg ∧ rMom 4 H mv M ∧ WMom pg 4 M first ∧ momL M ≤ 20 ∧ ∀ H', Same H H' → Q (.bl true) H'
theorem r_steps (T : Tx K mg) (c_Procedure_way : CalS P w K mg base 2 (cP K) "way" (S_Procedure_way K)) (c_Program_getitem : CalS P w K mg base 2 (cG K) "__getitem__" (S_Program_getitem K)) (c_Form_entered : CalF P w K mg base 3 (cF K) "entered" (S_Form_entered K))
    (c_Form_eq : CalF P w K mg base 1 (cF K) "__eq__" (S_Form_eq K)) (c_form_at : Cal P w K mg base 14 "form_at" (S_form_at K 4)) (c_l_stepped : Cal P w K mg base 13 "_law_stepped" (S_fb K 4)) : FnR P w K mg base CX0 15 (a_l_steps_right K) (sp (S_steps K)) := by
  refine fr_of (S := (S_steps K)) (N := N_l_steps_right) (f_l_steps_right T) sc_l_steps_right (fun vs H Q h => by first | (obtain ⟨rfl, _⟩ := h; rfl) | (obtain ⟨_, rfl, _⟩ := h; rfl) | (obtain ⟨_, _, rfl, _⟩ := h; rfl) | (obtain ⟨_, _, _, rfl, _⟩ := h; rfl) | (obtain ⟨_, _, _, _, rfl, _⟩ := h; rfl) | (obtain ⟨_, _, _, _, _, rfl, _⟩ := h; rfl) | (obtain ⟨_, _, _, _, _, _, rfl, _⟩ := h; rfl) | (obtain ⟨_, _, _, _, _, _, _, rfl, _⟩ := h; rfl) | (obtain ⟨_, _, _, _, _, _, _, _, rfl, _⟩ := h; rfl) | (obtain ⟨_, _, _, _, _, _, _, _, _, rfl, _⟩ := h; rfl) | (obtain ⟨_, _, _, _, _, _, _, _, _, _, rfl, _⟩ := h; rfl) | (obtain ⟨_, _, _, _, _, _, _, _, _, _, _, rfl, _⟩ := h; rfl) | (obtain ⟨_, _, _, _, _, _, _, _, _, _, _, _, rfl, _⟩ := h; rfl) | (obtain ⟨_, _, _, _, _, _, _, _, _, _, _, _, _, rfl, _⟩ := h; rfl) | (obtain ⟨_, _, _, _, _, _, _, _, _, _, _, _, _, _, rfl, _⟩ := h; rfl) | (obtain ⟨_, _, _, _, _, _, _, _, _, _, _, _, _, _, _, rfl, _⟩ := h; rfl) | (obtain ⟨_, _, _, _, _, _, _, _, _, _, _, _, _, _, _, _, rfl, _⟩ := h; rfl)) (fun _ _ _ _ _ _ us hl => match us, hl with | [_, _], _ => rfl) (fun cdv A outer s H vs Q E hr h => ?_)
  obtain ⟨g, mv, first, pg, M, rfl, hg, ok, hf, ⟨mb, mod, xs, rfl, hmb, hmo⟩, hw, hl20, q⟩ := h
  obtain ⟨ga, rfl, gdx, gd, hgs, hgd⟩ := id hg
  obtain ⟨ep, okp⟩ := ok.at hf
  obtain ⟨ys, zs, exs, pys, hz⟩ := mom_list hmo
  have hwp := wmom_pre hw
  have hyl : ys.length = (momPre M).length := Paired.length pys
  have hxl : xs.length ≤ 20 := by
    rw [exs, List.length_append]
    rcases hz with ⟨eM, ez⟩ | ⟨i, m, a, b, od, us, eM, ez, _⟩
    · rw [eM] at hl20
      change (momPre M).length ≤ 20 at hl20
      rw [ez]; simp only [List.length_nil]; omega
    · rw [eM] at hl20
      change (momPre M).length + 1 ≤ 20 at hl20
      rw [ez]; simp only [List.length_singleton]; omega
  refine ⟨_, (pss_cons (ps_for PassesOwn.never rfl (pi_range2 rfl (n_range T) (pa_cons pe_int (pa_cons (pe_op op_add (pe_callB (cLen K rfl) rfl (n_len T) (by decide +kernel) (pa_cons (pv 1) pa_nil)) pe_int) pa_nil))) (pg_name (i := 2) sc_l_steps_right.nd rfl (.inl rfl)) (pss_cons (ps_asg (pcall c_form_at hr (by decide) rfl (pa_cons (pv 0) (pa_cons (pe_fz (pe_slice (slL K rfl) (pv 1) po_none (po_some (pe_op op_sub (pv 2) pe_int)))) pa_nil))) (pgTup (n := 3) K rfl rfl (pgs_cons (pg_name (i := 3) sc_l_steps_right.nd rfl (.inl rfl)) (pgs_cons (pg_name (i := 4) sc_l_steps_right.nd rfl (.inl rfl)) (pgs_cons (pg_name (i := 5) sc_l_steps_right.nd rfl (.inl rfl)) pgs_nil)))))
        (pss_cons (ps_par (i := 6) (j := 7) rfl sc_l_steps_right.nd rfl rfl (by decide) rfl rfl (pa_cons (pe_ix (ixL K rfl) (pv 1) (pe_op op_sub (pv 2) pe_int) (fun _ _ => rfl)) (pa_cons (pcall c_form_at hr (by decide) rfl (pa_cons (pv 0) (pa_cons (pe_fz (pe_slice (slL K rfl) (pv 1) po_none (po_some (pv 2)))) pa_nil))) pa_nil)) (by rfl))
        (pss_cons (ps_if (PW.pt (pw_and (pt_val (pe_callB (cIsi K rfl) rfl (n_isinstance T) (by decide +kernel) (pa_cons (pv 6) (pa_cons (pe_bltn (v := .ty "tuple") rfl (n_tuple T) (by decide +kernel) rfl) pa_nil)))) (pw_and1 (pt_cmpR op_eq (pe_ix (ixT K rfl) (pv 6) pe_int (fun _ _ => rfl)) pe_str (nomark _))))) (pss_cons (ps_set (i := 8) sc_l_steps_right.nd rfl (.inl rfl) (pe_ix (ixT K rfl) (pmethS c_Procedure_way hr (by decide) (pgetG c_Program_getitem hr (by decide) (pv 0) (pv 3)) (pa_cons (pe_ix (ixT K rfl) (pv 6) pe_int (fun _ _ => rfl)) pa_nil)) pe_int (fun _ _ => rfl)))
          (pss_cons (ps_set (i := 9) sc_l_steps_right.nd rfl (.inl rfl) (pmeth c_Form_entered hr (by decide) (pv 5) (pa_cons (pv 8) (pa_cons (pgetG c_Program_getitem hr (by decide) (pv 0) (pe_ix (ixT K rfl) (pv 8) pe_int (fun _ _ => rfl))) pa_nil))))
          (pss_one (ps_set (i := 7) sc_l_steps_right.nd rfl (.inl rfl) (pcall c_form_at hr (by decide) rfl (pa_cons (pv 0) (pa_cons (pe_fz (pe_op op_cat (pe_slice (slL K rfl) (pv 1) po_none (po_some (pe_op op_sub (pv 2) pe_int))) (pe_lst (pa_cons (pe_tup (pa_cons pe_str (pa_cons (pe_ix (ixT K rfl) (pv 6) pe_int (fun _ _ => rfl)) (pa_cons (pe_fz (pe_lst pa_nil)) pa_nil)))) pa_nil)))) pa_nil))))))) (pss_one (ps_set (i := 9) sc_l_steps_right.nd rfl (.inl rfl) (pcall c_l_stepped hr (by decide) rfl (pa_cons (pv 0) (pa_cons (pv 3) (pa_cons (pv 5) (pa_cons (pv 6) pa_nil))))))))
        (pss_one (ps_if (pt_cmpR (op_neF c_Form_eq (ne_Form T) (i_Form T).1.cm hr (by decide)) (pe_ix (ixT K rfl) (pv 7) pe_int (fun _ _ => rfl)) (pv 9) (nomark _)) (pss_one (ps_ret pe_bl)) pss_nil))))))
      (pss_one (ps_ret pe_bl))), ?_⟩
  refine ⟨_, rfl, _, _, rfl, .inl ⟨xs, .inl (.inr ⟨_, hmb⟩), rfl⟩, _, _, rfl, rfl, 1, _, rfl, ⟨by decide, by decide, by omega, by omega⟩, ?_⟩
  have en : (((xs.length : Nat) : Int) + 1 - 1).toNat = xs.length := by omega
  rw [en]
  refine for_d wd_range2 (fun (dn : List Nat) (σ : L2.St) (H' : Hp) => ∃ (y2 y3 y4 y5 y6 y7 y8 y9 : Option V), σ = [some (V.ref ga), some (V.ref mb), y2, y3, y4, y5, y6, y7, y8, y9] ∧ Same H H') ?_ ?_ ?_ ?_
  · exact ⟨_, _, _, _, _, _, _, _, rfl, Same.refl H⟩
  · intro _ _ _ _; trivial
  · rintro dn i rr x σ H1 H' el ⟨y2, y3, y4, y5, y6, y7, y8, y9, rfl, s1⟩ ⟨rfl, rfl⟩
    have hi : i < xs.length := List.mem_range.mp (show i ∈ List.range xs.length from by rw [el]; simp)
    have ei : (1 : Int) + ((i : Nat) : Int) - 1 = ((i : Nat) : Int) := by omega
    have ei2 : (1 : Int) + ((i : Nat) : Int) = ((i + 1 : Nat) : Int) := by omega
    have ec1 : cutV xs none (some ((1 : Int) + ((i : Nat) : Int) - 1)) = xs.take i := by rw [ei]; exact cutV_hi _ _
    have ec2 : cutV xs none (some ((1 : Int) + ((i : Nat) : Int))) = xs.take (i + 1) := by rw [ei2]; exact cutV_hi _ _
    have hat : ∀ {v : V}, xs[i]? = some v → atI xs ((1 : Int) + ((i : Nat) : Int) - 1) = some v := fun h => by rw [ei]; exact atI_nat h
    have hSq : ∀ {H2 : Hp}, Same H H2 → SqL K H2 mb xs := fun s => .inl (.inr ⟨_, s _ _ hmb⟩)
    have hile : i ≤ ys.length := by
      have h1 := congrArg List.length exs
      rw [List.length_append] at h1
      rcases hz with ⟨_, ez⟩ | ⟨_, _, _, _, _, _, _, ez, _⟩
      · rw [ez] at h1; simp only [List.length_nil] at h1; omega
      · rw [ez] at h1; simp only [List.length_singleton] at h1; omega
    have etk : xs.take i = ys.take i := by rw [exs, List.take_append_of_le_length hile]
    have hwt : ∀ s ∈ (momPre M).take i, WStep pg 4 first s := fun s hs => hwp s (List.mem_of_mem_take hs)
    generalize hF1 : ((momPre M).take i).foldl (stepF pg 4 first) (begin_ (prOf pg first)) = F1
    have fo1 : FOk (e0 :: (prOf pg first).params) (prOf pg first).kinds (prOf pg first) F1 := by
      rw [← hF1]; exact run_ok ok hf _ _ hwt (begin_ok okp)
    -- form_at(.., moment[:many - 1])
    refine ⟨_, rfl, _, rfl, _, rfl, _, _, rfl, rfl, _, rfl, mb, _, rfl, hSq s1, fun c hc => ⟨c, _, rfl, upd_same, trivial, fun od => ?_⟩⟩
    rw [upd_upd]
    have sc : Same H' (upd H' c (.frz od (.lst (cutV xs none (some ((1 : Int) + ((i : Nat) : Int) - 1)))))) := same_new hc
    have s2 := s1.trans sc
    have hc1 : (upd H' c (.frz od (.lst (cutV xs none (some ((1 : Int) + ((i : Nat) : Int) - 1)))))) c = some (.frz od (.lst (xs.take i))) := by rw [upd_same, ec1]
    refine ⟨_, _, first, pg, .last ((momPre M).take i), rfl, mo (kp_of s2) hg, ok, hf, ⟨c, od, xs.take i, rfl, hc1, ?_⟩, hwt, fun a1 pl1 fv1 H3 s3 ha1 hfv1 => ?_⟩
    · rw [etk]
      exact p_take i (mos (R := rStep 4) (kp_of s2) pys)
    have s4 := s2.trans s3
    have e1 : (momF pg 4 first (begin_ (prOf pg first)) (.last ((momPre M).take i))) = (first, F1) := by rw [← hF1]; rfl
    rw [e1] at ha1 hfv1
    change H3 a1 = some (.tup [.str first, .int pl1, fv1]) at ha1
    change rFm K H3 fv1 F1 at hfv1
    refine ⟨a1, _, rfl, .inl (.inl ha1), rfl, _, _, rfl, _, _, rfl, _, _, rfl, rfl, ?_⟩
    obtain ⟨v, hv⟩ : ∃ v, xs[i]? = some v := ⟨_, List.getElem?_eq_getElem hi⟩
    refine ⟨_, rfl, _, rfl, _, _, rfl, rfl, mb, _, _, v, rfl, rfl, hSq s4, hat hv, ?_⟩
    refine ⟨_, rfl, _, rfl, _, rfl, _, rfl, mb, _, rfl, hSq s4, fun c2 hc2 => ⟨c2, _, rfl, upd_same, trivial, fun od2 => ?_⟩⟩
    rw [upd_upd]
    have sc2 : Same H3 (upd H3 c2 (.frz od2 (.lst (cutV xs none (some ((1 : Int) + ((i : Nat) : Int))))))) := same_new hc2
    have s5 := s4.trans sc2
    have hc3 : (upd H3 c2 (.frz od2 (.lst (cutV xs none (some ((1 : Int) + ((i : Nat) : Int))))))) c2 = some (.frz od2 (.lst (xs.take (i + 1)))) := by rw [upd_same, ec2]
    have hfv1' := mo (kp_of sc2) hfv1
    generalize upd H3 c2 (.frz od2 (.lst (cutV xs none (some ((1 : Int) + ((i : Nat) : Int)))))) = H4 at s5 hc3 hfv1' ⊢
    let Pv : L2.St → Hp → Prop := fun σ' H6 => ∃ (ta : Addr) (u1 u2 fv2 fv3 : V) (F2 : Fm) (p2 : Pr) (z2 z3 z4 z5 z6 z8 : Option V), σ' = [some (V.ref ga), some (V.ref mb), z2, z3, z4, z5, z6, some (V.ref ta), z8, some fv3] ∧ Same H H6 ∧ H6 ta = some (.tup [u1, u2, fv2]) ∧ rFm K H6 fv2 F2 ∧ rFm K H6 fv3 F2 ∧
      FOk (e0 :: (prOf pg first).params) (prOf pg first).kinds p2 F2 ∧ OkPr p2
    by_cases hlt : i < ys.length
    · -- a step that comes back
      have hvy : ys[i]? = some v := by
        rw [exs, List.getElem?_append_left hlt] at hv
        exact hv
      obtain ⟨s, hs, hvs⟩ := Paired.at pys hvy
      have hws := hwp s (List.mem_of_getElem? hs)
      have etk2 : xs.take (i + 1) = ys.take (i + 1) := by rw [exs, List.take_append_of_le_length hlt]
      have hF2 : ((momPre M).take (i + 1)).foldl (stepF pg 4 first) (begin_ (prOf pg first)) = stepF pg 4 first F1 s := by rw [foldl_take_succ hs, hF1]
      refine ⟨_, _, first, pg, .last ((momPre M).take (i + 1)), rfl, mo (kp_of s5) hg, ok, hf, ⟨c2, od2, xs.take (i + 1), rfl, hc3, ?_⟩, fun z hz => hwp z (List.mem_of_mem_take hz), fun a2 pl2 fv2 H5 s6 ha2 hfv2 => ?_⟩
      · rw [etk2]
        exact p_take (i + 1) (mos (R := rStep 4) (kp_of s5) pys)
      have e2 : (momF pg 4 first (begin_ (prOf pg first)) (.last ((momPre M).take (i + 1)))) = (first, stepF pg 4 first F1 s) := by rw [← hF2]; rfl
      rw [e2] at ha2 hfv2
      change H5 a2 = some (.tup [.str first, .int pl2, fv2]) at ha2
      change rFm K H5 fv2 (stepF pg 4 first F1 s) at hfv2
      have s7 := s5.trans s6
      have hfv5 := mo (kp_of s6) hfv1'
      have hvs5 := mo (R := rStep 4) (kp_of s7) hvs
      refine ⟨_, _, rfl, ?_⟩
      dsimp only
      refine seq_mk Pv ?_ fun rest => ?_
      · rintro σ' H6 ⟨ta, u1, u2, fv2, fv3, F2, p2, z2, z3, z4, z5, z6, z8, rfl, s8, hta, h2, h3, fo2, okp2⟩
        obtain ⟨f2, rfl, dx2, _, _, _, _, hf2, _⟩ := id h2
        obtain ⟨f3, rfl, dx3, _, _, _, _, hf3, _⟩ := id h3
        refine ⟨_, rfl, _, _, _, _, rfl, rfl, .inl (.inl hta), at2, _, rfl, f2, f3, dx2, dx3, _, _, rfl, rfl, hf2, hf3, _, _, F2, _, rfl, h2, h3, fo2.wf, by rw [fo2.kinds]; exact okp2.wk.nd, true, rfl, false, rfl, iteF ?_⟩
        exact ⟨_, _, _, _, _, _, _, _, rfl, s8⟩
      · have go : ∀ (v' : V) (H6 : Hp), Same H5 H6 → rFm K H6 v' (stepF pg 4 first F1 s) → Pv [some (V.ref ga), some (V.ref mb), some (V.int ((1 : Int) + ((i : Nat) : Int))), some (V.str first), some (V.int pl1), some fv1, some v, some (V.ref a2), y8, some v'] H6 := fun v' H6 s8 hv' =>
          ⟨a2, _, _, fv2, v', _, prOf pg first, _, _, _, _, _, _, rfl, s7.trans s8, s8 _ _ ha2, mo (kp_of s8) hfv2, hv', step_ok ok 4 hf fo1 hws, okp⟩
        cases s with
        | way j =>
          have ev : v = .int (j : Nat) := hvs
          subst ev
          refine ⟨_, rfl, _, _, _, _, _, rfl, .ty _, .base (.int _), kt_it, false, rfl, iteF (iteF ?_)⟩
          exact ⟨_, rfl, _, rfl, _, rfl, _, rfl, _, _, _, first, first, pg, F1, .way j, _, _, rfl, mo (kp_of s7) hg, ok, hf, hfv5, fo1, hvs5, hws, fun v' H6 s8 hv' => rest _ _ (go v' H6 s8 hv')⟩
        | call j r0 =>
          obtain ⟨ca, cb, cod, cxs, rfl, hca, hcb, pcb⟩ := id hvs5
          refine ⟨_, rfl, _, _, _, _, _, rfl, .ty _, .base (.tup hca), kt_tt, true, rfl, iteT ?_⟩
          refine ⟨_, rfl, _, _, _, _, rfl, rfl, .inl (.inl hca), at0, rfl, false, sF call_ne, iteF ?_⟩
          exact ⟨_, rfl, _, rfl, _, rfl, _, rfl, _, _, _, first, first, pg, F1, .call j r0, _, _, rfl, mo (kp_of s7) hg, ok, hf, hfv5, fo1, hvs5, hws, fun v' H6 s8 hv' => rest _ _ (go v' H6 s8 hv')⟩
    · -- within a call
      have hie : i = ys.length := by omega
      obtain ⟨i0, m, a, b, od0, us, eM, ez, ha, hb, hmm⟩ : ∃ i0 m a b od0 us, M = .inn (momPre M) i0 m ∧ zs = [.ref a] ∧ H a = some (.tup [.str "in", .int (i0 : Nat), .ref b]) ∧ H b = some (.frz od0 (.lst us)) ∧ rMo 4 H m us := by
        rcases hz with ⟨_, ez⟩ | h
        · exfalso
          rw [exs, ez, List.append_nil] at hi
          exact hlt hi
        · exact h
      have hva : v = .ref a := by
        rw [exs, ez, hie, List.getElem?_append_right (Nat.le_refl _), Nat.sub_self] at hv
        exact (Option.some.inj hv).symm
      subst hva
      have hall : xs.take (i + 1) = xs := List.take_of_length_le (by rw [exs, ez, List.length_append, hie]; exact Nat.le_refl _)
      have hwi := hw
      rw [eM] at hwi
      obtain ⟨_, x, gg, as, rs, hx, hc0, hmw⟩ := hwi
      obtain ⟨hgk, cf, sin, syn⟩ := ok.call hf hx hc0
      obtain ⟨eg, okq⟩ := ok.at hgk
      have hpre : (momPre M).take i = momPre M := List.take_of_length_le (by omega)
      refine ⟨_, _, first, pg, M, rfl, mo (kp_of s5) hg, ok, hf, ⟨c2, od2, xs.take (i + 1), rfl, hc3, by rw [hall]; exact rMo_mono (kp_of s5) hmo⟩, hw, fun a2 pl2 fv2 H5 s6 ha2 hfv2 => ?_⟩
      have s7 := s5.trans s6
      have hfv5 := mo (kp_of s6) hfv1'
      refine ⟨_, _, rfl, ?_⟩
      dsimp only
      refine seq_mk Pv ?_ fun rest => ?_
      · rintro σ' H6 ⟨ta, u1, u2, fv2, fv3, F2, p2, z2, z3, z4, z5, z6, z8, rfl, s8, hta, h2, h3, fo2, okp2⟩
        obtain ⟨f2, rfl, dx2, _, _, _, _, hf2, _⟩ := id h2
        obtain ⟨f3, rfl, dx3, _, _, _, _, hf3, _⟩ := id h3
        refine ⟨_, rfl, _, _, _, _, rfl, rfl, .inl (.inl hta), at2, _, rfl, f2, f3, dx2, dx3, _, _, rfl, rfl, hf2, hf3, _, _, F2, _, rfl, h2, h3, fo2.wf, by rw [fo2.kinds]; exact okp2.wk.nd, true, rfl, false, rfl, iteF ?_⟩
        exact ⟨_, _, _, _, _, _, _, _, rfl, s8⟩
      · have ha7 := s7 _ _ ha
        refine ⟨_, rfl, _, _, _, _, _, rfl, .ty _, .base (.tup ha7), kt_tt, true, rfl, iteT ?_⟩
        refine ⟨_, rfl, _, _, _, _, rfl, rfl, .inl (.inl ha7), at0, rfl, true, bT rfl, iteT ?_⟩
        refine ⟨_, rfl, _, rfl, ga, gdx, _, rfl, slt_keep (kp_of s7) hgs, _, first, first, pg, prOf pg first, rfl, mo (kp_of s7) hg, ep, fun v5 hv5 => ?_⟩
        obtain ⟨pa, rfl, pdx, pk, pu, pr, pw, hps, _⟩ := id hv5
        refine ⟨pa, pdx, _, rfl, hps, _, rfl, _, _, _, _, rfl, rfl, .inl (.inl ha7), at1, _, prOf pg first, i0, x, rfl, hv5, hx, fun v6 ⟨wa, wu, e6, hwa, hwu⟩ => ?_⟩
        subst e6
        rw [hc0] at hwu
        obtain ⟨ca, cy, cz, rfl, hca, hcy, hcz⟩ := id hwu
        refine ⟨_, _, _, _, rfl, rfl, .inl (.inl hwa), at2, ?_⟩
        obtain ⟨fa, rfl, dx, fk, fp, fr, ft, hfa, _⟩ := id hfv5
        refine ⟨_, rfl, fa, dx, _, rfl, hfa, ff_no (by decide +kernel), ?_⟩
        refine ⟨_, rfl, _, rfl, _, rfl, _, _, _, _, rfl, rfl, .inl (.inl hca), at1, ga, gdx, _, rfl, slt_keep (kp_of s7) hgs, _, first, gg, pg, prOf pg gg, rfl, mo (kp_of s7) hg, eg, fun v7 hv7 => ?_⟩
        refine ⟨_, _, _, F1, prOf pg gg, gg, as, rs, _, rfl, hfv5, hwu, hv7, fo1.wf, okq.wk, by rw [fo1.keys]; exact sin.1, by rw [cf.la]; have := okq.ps.2.1; omega, cf.la, fun v8 H8 s8 hv8 => ?_⟩
        have s9 := s7.trans s8
        have ha9 := s9 _ _ ha
        refine ⟨_, rfl, _, rfl, _, rfl, _, _, rfl, rfl, _, rfl, mb, _, rfl, hSq s9, fun c5 hc5 => ?_⟩
        have sc5 : Same H8 (upd H8 c5 (.lst (cutV xs none (some ((1 : Int) + ((i : Nat) : Int) - 1))))) := same_new hc5
        have hc5' : (upd H8 c5 (.lst (cutV xs none (some ((1 : Int) + ((i : Nat) : Int) - 1))))) c5 = some (.lst (xs.take i)) := by rw [upd_same, ec1]
        generalize upd H8 c5 (.lst (cutV xs none (some ((1 : Int) + ((i : Nat) : Int) - 1)))) = H9 at sc5 hc5' ⊢
        have s10 := s9.trans sc5
        refine ⟨_, rfl, _, _, _, _, rfl, rfl, .inl (.inl (sc5 _ _ ha9)), at1, Nat.zero_le _, fun z hz => ⟨z, _, rfl, upd_same, trivial, fun odz => ?_⟩⟩
        rw [upd_upd]
        have sz : Same H9 (upd H9 z (.frz odz (.lst []))) := same_new hz
        have hz' : (upd H9 z (.frz odz (.lst []))) z = some (.frz odz (.lst [])) := upd_same
        generalize upd H9 z (.frz odz (.lst [])) = H10 at sz hz' ⊢
        refine ⟨ln3, fun t ht => ?_⟩
        have st : Same H10 (upd H10 t (.tup [V.str "in", V.int (i0 : Nat), V.ref z])) := same_new ht
        have ht' : (upd H10 t (.tup [V.str "in", V.int (i0 : Nat), V.ref z])) t = some (.tup [V.str "in", V.int (i0 : Nat), V.ref z]) := upd_same
        generalize upd H10 t (.tup [V.str "in", V.int (i0 : Nat), V.ref z]) = H11 at st ht' ⊢
        refine ⟨ln1, fun l hl => ?_⟩
        have sl : Same H11 (upd H11 l (.lst [V.ref t])) := same_new hl
        have hl' : (upd H11 l (.lst [V.ref t])) l = some (.lst [V.ref t]) := upd_same
        generalize upd H11 l (.lst [V.ref t]) = H12 at sl hl' ⊢
        have sA := ((sz.trans st).trans sl)
        have s13 := s10.trans sA
        refine ⟨c5, l, _, _, rfl, rfl, sA _ _ hc5', hl', Nat.le_of_lt (big (by rw [List.length_take]; simp only [List.length_singleton]; omega)), fun p hp => ⟨p, _, rfl, upd_same, trivial, fun odp => ?_⟩⟩
        rw [upd_upd]
        have sp0 : Same H12 (upd H12 p (.frz odp (.lst (xs.take i ++ [V.ref t])))) := same_new hp
        have hp' : (upd H12 p (.frz odp (.lst (xs.take i ++ [V.ref t])))) p = some (.frz odp (.lst (xs.take i ++ [V.ref t]))) := upd_same
        generalize upd H12 p (.frz odp (.lst (xs.take i ++ [V.ref t]))) = H13 at sp0 hp' ⊢
        have sB := s13.trans sp0
        have s8B := (sc5.trans sA).trans sp0
        refine ⟨_, _, first, pg, .inn (momPre M) i0 (.last []), rfl, mo (kp_of sB) hg, ok, hf, ⟨p, odp, _, rfl, hp', xs.take i, t, z, odz, [], rfl, ?_, sp0 _ _ (sl _ _ ht'), sp0 _ _ (sl _ _ (st _ _ hz')), .nil⟩, ⟨hwp, x, gg, as, rs, hx, hc0, fun z hz => absurd hz (List.not_mem_nil)⟩, fun a9 pl9 fv9 H14 s14 ha9 hfv9 => ?_⟩
        · rw [etk, ← hpre]
          exact p_take i (mos (R := rStep 4) (kp_of sB) pys)
        have hpre2 : (momPre M).foldl (stepF pg 4 first) (begin_ (prOf pg first)) = F1 := by rw [← hF1, hpre]
        have e9 : momF pg 4 first (begin_ (prOf pg first)) (.inn (momPre M) i0 (.last [])) = (gg, entered_ F1 as (prOf pg gg)) := by
          simp only [momF]
          rw [wayS_of hx, hc0, hpre2]
          rfl
        rw [e9] at ha9 hfv9
        exact rest _ _ ⟨a9, _, _, fv9, v8, _, prOf pg gg, _, _, _, _, _, _, rfl, sB.trans s14, ha9, hfv9, mo (kp_of (s8B.trans s14)) hv8, entered_ok fo1 sin cf okq, okq⟩
  · rintro σ H1 ⟨y2, y3, y4, y5, y6, y7, y8, y9, rfl, s1⟩
    exact q _ s1
end Fp

/-! ## FpApr -/
set_option Elab.async false
set_option linter.all false
set_option maxRecDepth 100000
set_option maxHeartbeats 2000000
namespace Fp
open PySem PySem.Spec PyProof.Rows L2
variable {P : Program} {w : World} {K : PySem.W.Frag} {mg : Str → Option Value} {base : Heap}
/-! ### plain: differences are the greatest sums -/
theorem lk_src {st : Row} {y : Str} (hy : y = e0 ∨ y ∈ keys st) : lk (put st e0 0) y = some (src st y) := by
  rw [lk_put]
  unfold src
  by_cases e : y = e0
  · rw [if_pos e, if_pos e]
  · rw [if_neg e, if_neg e]
    obtain ⟨v, ev⟩ := lk_some (hy.resolve_left e)
    rw [ev]; rfl
theorem apart_max {st : Row} {rx ry : Row} {ap : ApL} (ok : ApOk rx ry ap) {vx vy m : Int} (hx : IsMx vx (sums st rx)) (hy : IsMn vy (sums st ry)) (h1 : m ∈ ap.map fun z => z.2 + src st z.1.1 - src st z.1.2) (h2 : ∀ z ∈ ap.map (fun z => z.2 + src st z.1.1 - src st z.1.2), z ≤ m) : vx - vy = m := by
  obtain ⟨p, hp, ep⟩ := sums_at.mp hx.1
  obtain ⟨q, hq, eq⟩ := sums_at.mp hy.1
  have a1 := h2 _ (List.mem_map.mpr ⟨mkz p q, (ok _).mpr ⟨p, hp, q, hq, rfl⟩, rfl⟩)
  obtain ⟨z, hz, ez⟩ := List.mem_map.mp h1
  obtain ⟨p', hp', q', hq', rfl⟩ := (ok z).mp hz
  have a2 := hx.2 _ (sums_at.mpr ⟨p', hp', rfl⟩)
  have a3 := hy.2 _ (sums_at.mpr ⟨q', hq', rfl⟩)
  simp only [mkz] at a1 ez
  omega
theorem sums_zero (st : Row) : sums st [(e0, 0)] = [0] := by
  show [src st e0 + 0] = [0]
  unfold src
  rw [if_pos rfl]
  rfl
theorem ne_low_plain : ("plain" : Str) ≠ "low" := by decide +kernel
section
variable {S : List Str} {ks0 : List (Str × Str)} {h : Hd} {F : Fm} {st nu : Row}
theorem kinds_at (fo : FOk S ks0 (prH h) F) {x : Str} (hx : x ∈ keys F.table) : x ∈ keys h.kinds ∧ kindIn F.kinds x = kindIn h.kinds x := by
  rw [fo.keys] at hx
  have hx' : x ∈ keys h.kinds := sortK_mem.mp hx
  exact ⟨hx', by rw [fo.kinds]; exact sortK_in hx'⟩
theorem num_max (fo : FOk S ks0 (prH h) F) (ok : HdOk h) (nok : NumOk st F nu) {x : Str} (hx : x = e0 ∨ x ∈ keys nu) (hk : kd h.kinds x ≠ "low") : IsMx (src nu x) (sums st (dictOf F.table x)) := by
  unfold src dictOf
  by_cases e : x = e0
  · rw [if_pos e, if_pos e, sums_zero]
    exact ⟨List.mem_singleton.mpr rfl, fun y hy => by rw [List.mem_singleton.mp hy]; exact Int.le_refl _⟩
  · rw [if_neg e, if_neg e]
    obtain ⟨v, ev⟩ := lk_some (hx.resolve_left e)
    obtain ⟨r, er, hn⟩ := nok.at_ x v ev
    obtain ⟨h1, h2⟩ := kinds_at fo (lk_key er)
    unfold NumAt at hn
    unfold kd at hk
    rw [if_neg e] at hk
    rw [h2, if_neg hk] at hn
    rw [ev, er]
    exact hn
theorem num_min (fo : FOk S ks0 (prH h) F) (ok : HdOk h) (nok : NumOk st F nu) {x : Str} (hx : x = e0 ∨ x ∈ keys nu) (hk : kd h.kinds x ≠ "high") : IsMn (src nu x) (sums st (dictOf F.table x)) := by
  unfold src dictOf
  by_cases e : x = e0
  · rw [if_pos e, if_pos e, sums_zero]
    exact ⟨List.mem_singleton.mpr rfl, fun y hy => by rw [List.mem_singleton.mp hy]; exact Int.le_refl _⟩
  · rw [if_neg e, if_neg e]
    obtain ⟨v, ev⟩ := lk_some (hx.resolve_left e)
    obtain ⟨r, er, hn⟩ := nok.at_ x v ev
    obtain ⟨h1, h2⟩ := kinds_at fo (lk_key er)
    rw [ev, er]
    show IsMn v (sums st r)
    unfold NumAt at hn
    unfold kd at hk
    rw [if_neg e] at hk
    by_cases el : kindIn F.kinds x = "low"
    · rw [if_pos el] at hn
      exact hn
    · rw [if_neg el] at hn
      have hpl : kindIn F.kinds x = "plain" := by
        have hkd : IsKd (kindIn h.kinds x) := ok.ks.kd h1
        rw [h2] at el ⊢
        rcases List.mem_cons.mp hkd with z | z
        · exact z
        rcases List.mem_cons.mp z with z | z
        · exact absurd z hk
        · exact absurd (List.mem_singleton.mp z) el
      obtain ⟨s, a, rfl, _⟩ := fo.plain x r er (by rw [← fo.kinds]; exact hpl)
      have e1 : sums st [(s, a)] = [src st s + a] := rfl
      rw [e1] at hn ⊢
      exact ⟨hn.1, fun y hy => by rw [List.mem_singleton.mp hy, List.mem_singleton.mp hn.1]; exact Int.le_refl _⟩
theorem nm_table (fo : FOk S ks0 (prH h) F) (nok : NumOk st F nu) {x : Str} (hx : x = e0 ∨ x ∈ keys nu) : Nm (keys F.table) x := hx.imp id fun z => by rw [nok.keys] at z; exact mem_srt.mp z
theorem nm_kinds (fo : FOk S ks0 (prH h) F) (nok : NumOk st F nu) {x : Str} (hx : x = e0 ∨ x ∈ keys nu) : Nm (keys h.kinds) x := (nm_table fo nok hx).imp id fun z => (kinds_at fo z).1
end
/-- the pairs of a dict of pairs -/
theorem wd_itemsT {d : Addr} {o : Obj} {ap : ApL} : WalkD (ItiT d o (apK ap)) ap (fun H => H d = some (.frz o (.dT (apK ap)))) (fun z H x H' => ∃ T q, x = .ref T ∧ H T = none ∧ H q = some (.tup [.str z.1.1, .str z.1.2]) ∧ H' = upd H T (.tup [.ref q, .int z.2])) := by
  refine ⟨fun i H hi q => ⟨q, by rw [apK_len]; exact hi⟩, fun H q => ⟨q, by rw [apK_len]; exact Nat.le_refl _⟩, fun i H x H' hi q ⟨T, k, v, c, e, h1, h2, h3, h4⟩ => ?_⟩
  unfold apK at e
  rw [List.getElem?_map] at e
  obtain ⟨z, ez, e2⟩ := Option.map_eq_some_iff.mp e
  cases e2
  exact ⟨z, ez, T, c, h1, h2, h3, h4⟩
theorem dget_kd {H : Hp} {ka : Addr} {kod : Obj} {kkvs : List (Key × V)} {ks : List (Str × Str)} (hka : H ka = some (.frz kod (.dK kkvs))) (dp : DicP rStr H kkvs ks) (wk : e0 ∉ keys ks) {x : Str} (hx : Nm (keys ks) x) : ∃ o, DGet H ka (.str x) o ∧ o.getD (.str "plain") = .str (kd ks x) := by
  refine ⟨valV kkvs (Sum.inr x), dgR (.inr ⟨kod, hka⟩) rfl, ?_⟩
  unfold kd
  by_cases e : x = e0
  · rw [if_pos e, dp.none (by rw [e]; exact lk_none.mpr wk)]
    rfl
  · rw [if_neg e]
    obtain ⟨v, ev⟩ := lk_some (hx.resolve_left e)
    obtain ⟨u, eu, ru⟩ := dp.some ev
    rw [eu, show u = _ from ru]
    unfold kindIn
    rw [ev]
    rfl
/-- slots: 0 _law_model_here, 1 _law_seen, 2 _law_shape, 3 _law_start, 4 _law_kinds_here*, 5 _law_values, 6 _law_ahead*, 7 _law_x, 8 _law_y, 9 _law_sums, 10 _law_one, 11 _law_more, 12 _law_s, 13 _law_t -/
abbrev N_l_apart_right : List Str := [Str.ofString "_law_model_here", Str.ofString "_law_seen", Str.ofString "_law_shape", Str.ofString "_law_start", Str.ofString "_law_kinds_here", Str.ofString "_law_values", Str.ofString "_law_ahead", Str.ofString "_law_x", Str.ofString "_law_y", Str.ofString "_law_sums", Str.ofString "_law_one", Str.ofString "_law_more", Str.ofString "_law_s", Str.ofString "_law_t"]
theorem sc_l_apart_right : FnScope N_l_apart_right [Str.ofString "_law_model_here", Str.ofString "_law_seen", Str.ofString "_law_shape", Str.ofString "_law_start"] (defScope s_l_apart_right) := ⟨rfl, rfl, rfl, by decide +kernel, rfl, by decide +kernel, by decide +kernel⟩
def S_apart_right (K : PySem.W.Frag) : Sq := fun vs H Q => ∃ (mv fv stv nv : V) (sa : Addr) (first name : Str) (FF : Hds) (h : Hd) (pl : Int) (F : Fm) (st nu : Row) (S : List Str) (ks0 : List (Str × Str)), vs = [mv, .ref sa, fv, stv] ∧ MdAt H mv first FF ∧ MdOk first FF ∧ lk FF name = some h ∧ H sa = some (.tup [.str name, .int pl, nv]) ∧ rDic rInt H nv nu ∧
  rFm K H fv F ∧ FOk S ks0 (prH h) F ∧ NumOk st F nu ∧ rDic rInt H stv st ∧ StOk S st ∧ ∀ H', Same H H' → Q (.bl true) H'
theorem r_apart_right (T : Tx K mg) (c_Form_apart : CalF P w K mg base 4 (cF K) "apart" (S_Form_apart K)) : FnR P w K mg base CX0 5 (a_l_apart_right K) (sp (S_apart_right K)) := by
  refine fr_of (S := (S_apart_right K)) (N := N_l_apart_right) (f_l_apart_right T) sc_l_apart_right (fun vs H Q h => by first | (obtain ⟨rfl, _⟩ := h; rfl) | (obtain ⟨_, rfl, _⟩ := h; rfl) | (obtain ⟨_, _, rfl, _⟩ := h; rfl) | (obtain ⟨_, _, _, rfl, _⟩ := h; rfl) | (obtain ⟨_, _, _, _, rfl, _⟩ := h; rfl) | (obtain ⟨_, _, _, _, _, rfl, _⟩ := h; rfl) | (obtain ⟨_, _, _, _, _, _, rfl, _⟩ := h; rfl) | (obtain ⟨_, _, _, _, _, _, _, rfl, _⟩ := h; rfl) | (obtain ⟨_, _, _, _, _, _, _, _, rfl, _⟩ := h; rfl) | (obtain ⟨_, _, _, _, _, _, _, _, _, rfl, _⟩ := h; rfl) | (obtain ⟨_, _, _, _, _, _, _, _, _, _, rfl, _⟩ := h; rfl) | (obtain ⟨_, _, _, _, _, _, _, _, _, _, _, rfl, _⟩ := h; rfl) | (obtain ⟨_, _, _, _, _, _, _, _, _, _, _, _, rfl, _⟩ := h; rfl) | (obtain ⟨_, _, _, _, _, _, _, _, _, _, _, _, _, rfl, _⟩ := h; rfl) | (obtain ⟨_, _, _, _, _, _, _, _, _, _, _, _, _, _, rfl, _⟩ := h; rfl) | (obtain ⟨_, _, _, _, _, _, _, _, _, _, _, _, _, _, _, rfl, _⟩ := h; rfl) | (obtain ⟨_, _, _, _, _, _, _, _, _, _, _, _, _, _, _, _, rfl, _⟩ := h; rfl)) (fun _ _ _ _ _ _ us hl => match us, hl with | [_, _, _, _], _ => rfl) (fun cdv A outer s H vs Q E hr h => ?_)
  obtain ⟨mv, fv, stv, nv, sa, first, name, FF, h, pl, F, st, nu, S, ks0, rfl, hM, mok, hlk, hsa, ⟨na, nod, nkvs, rfl, hna, ndp⟩, hF, fo, nok, ⟨sta, sod, skvs, rfl, hst, sdp⟩, sok, q⟩ := h
  obtain ⟨ma, mod, mkvs, hv, rfl, hma, ef, ep, d, od, kvs, rfl, hd, dp⟩ := id hM
  obtain ⟨hv0, ev0, ha0⟩ := dp.some hlk
  obtain ⟨ha, rfl, hA⟩ := id ha0
  obtain ⟨akvs, kv, pv_, rv, wv, ho, hol, ek, ⟨ka, kod, kkvs, rfl, hka, kdp⟩, ep', rp, er, rr, es, ew, rw_⟩ := hA.ex
  obtain ⟨fa, rfl, dx, k, p, r, t, hfa, _⟩ := id hF
  have hok : HdOk h := mok.ok.ok _ (lk_mem hlk)
  refine ⟨_, (pss_cons (ps_asg (pe_tup (pa_cons (pe_dget (hu_of hr) (pe_dget (hu_of hr) (pe_dget (hu_of hr) (pv 0) pe_str (fun _ _ => rfl)) (pe_ix (ixT K rfl) (pv 1) pe_int (fun _ _ => rfl)) (fun _ _ => rfl)) pe_str (fun _ _ => rfl)) (pa_cons (pe_callTy call_dictD rfl (n_dict T) (by decide +kernel) (pa_cons (pe_ix (ixT K rfl) (pv 1) pe_int (fun _ _ => rfl)) pa_nil)) pa_nil))) (pgTup (n := 2) K rfl rfl (pgs_cons (pg_name (i := 4) sc_l_apart_right.nd rfl (.inr rfl)) (pgs_cons (pg_name (i := 5) sc_l_apart_right.nd rfl (.inl rfl)) pgs_nil))))
      (pss_cons (ps_dput (hu_of hr) (pv 5) pe_str pe_int rfl)
      (pss_cons (ps_set (i := 6) sc_l_apart_right.nd rfl (.inr rfl) (pe_callTy call_dictD rfl (n_dict T) (by decide +kernel) (pa_cons (pv 3) pa_nil)))
      (pss_cons (ps_dput (hu_of hr) (pv 6) pe_str pe_int rfl)
      (pss_cons (ps_for PassesOwn.never rfl (piList K rfl (pe_lc (own := [("_law_one", 10)]) (g := gName 10) rfl sc_l_apart_right.nd (pi_keys (pe_fz (pv 5))) (blkOk_by (own := [("_law_one", 10)]) (N := N_l_apart_right) (sc := defScope s_l_apart_right) (by decide +kernel)) (fun _ _ _ _ _ => (pg_name (i := 10) sc_l_apart_right.nd rfl (.inl rfl))) (fun _ _ _ _ _ => (pts_one (pt_cmpR op_ne (pe_dget2 (hu_of hr) (pv 4) (pv 10) pe_str (by constructor <;> rfl)) pe_str (nomark _)))) (fun _ _ _ _ _ => (pv 10)))) (pg_name (i := 7) sc_l_apart_right.nd rfl (.inl rfl)) (pss_one (ps_for PassesOwn.never rfl (piList K rfl (pe_lc (own := [("_law_one", 10)]) (g := gName 10) rfl sc_l_apart_right.nd (pi_keys (pv 5)) (blkOk_by (own := [("_law_one", 10)]) (N := N_l_apart_right) (sc := defScope s_l_apart_right) (by decide +kernel)) (fun _ _ _ _ _ => (pg_name (i := 10) sc_l_apart_right.nd rfl (.inl rfl))) (fun _ _ _ _ _ => (pts_one (pt_cmpR op_ne (pe_dget2 (hu_of hr) (pv 4) (pv 10) pe_str (by constructor <;> rfl)) pe_str (nomark _)))) (fun _ _ _ _ _ => (pv 10)))) (pg_name (i := 8) sc_l_apart_right.nd rfl (.inl rfl)) (pss_cons (ps_setLc (i := 9) (own := [("_law_more", 11), ("_law_s", 12), ("_law_t", 13)]) rfl sc_l_apart_right.nd rfl rfl (sw_true rfl rfl rfl (by decide +kernel)) (pi_itemsT (pmeth c_Form_apart hr (by decide) (pv 2) (pa_cons (pv 7) (pa_cons (pv 8) pa_nil)))) (blkOk_by (own := [("_law_more", 11), ("_law_s", 12), ("_law_t", 13)]) (N := N_l_apart_right) (sc := defScope s_l_apart_right) (by decide +kernel)) (fun _ _ _ _ _ => (pgTup (n := 2) K rfl rfl (pgs_cons (pgTup (n := 2) K rfl rfl (pgs_cons (pg_name (i := 12) sc_l_apart_right.nd rfl (.inl rfl)) (pgs_cons (pg_name (i := 13) sc_l_apart_right.nd rfl (.inl rfl)) pgs_nil))) (pgs_cons (pg_name (i := 11) sc_l_apart_right.nd rfl (.inl rfl)) pgs_nil)))) (fun _ _ _ _ _ => pts_nil) (fun _ _ _ _ _ => (pe_op op_sub (pe_op op_add (pv 11) (pe_dget (hu_of hr) (pv 6) (pv 12) (fun _ _ => rfl))) (pe_dget (hu_of hr) (pv 6) (pv 13) (fun _ _ => rfl)))))
          (pss_one (ps_if (pt_cmpR op_ne (pe_op op_sub (pe_dget (hu_of hr) (pv 5) (pv 7) (fun _ _ => rfl)) (pe_dget (hu_of hr) (pv 5) (pv 8) (fun _ _ => rfl))) (pe_callB (cMax K rfl rfl) rfl (n_max T) (by decide +kernel) (pa_cons (pv 9) pa_nil)) (nomark _)) (pss_one (ps_ret pe_bl)) pss_nil))))))
      (pss_one (ps_ret pe_bl))))))), ?_⟩
  have nul : nu.length ≤ 8 := by
    have h1 := congrArg List.length nok.keys
    rw [len_srt] at h1
    have h2 := fo.wf.len
    unfold keys at h1
    rw [List.length_map, List.length_map] at h1
    omega
  refine ⟨_, rfl, ma, _, rfl, dgR (.inr ⟨mod, hma⟩) ep, _, rfl, _, _, _, _, rfl, rfl, .inl (.inl hsa), at0, d, _, rfl, dgR (.inr ⟨od, hd⟩) ev0, ha, _, rfl, dgR ho ek, _, rfl, _, _, _, _, rfl, rfl, .inl (.inl hsa), at2, na, nkvs, rfl, .inr ⟨_, hna⟩, fun u hu => ?_⟩
  have s1 : Same H (upd H u (.dK nkvs)) := same_new hu
  have hu1 : (upd H u (.dK nkvs)) u = some (.dK nkvs) := upd_same
  generalize upd H u (.dK nkvs) = H1 at s1 hu1 ⊢
  refine ⟨ln2, fun t0 ht0 => ⟨t0, _, rfl, .inl (.inl upd_same), rfl, _, _, rfl, _, _, rfl, rfl, ?_⟩⟩
  have st0 : Same H1 (upd H1 t0 (.tup [V.ref ka, V.ref u])) := same_new ht0
  have hu2 := st0 _ _ hu1
  have s2 := s1.trans st0
  generalize upd H1 t0 (.tup [V.ref ka, V.ref u]) = H2 at s2 hu2 ⊢
  refine ⟨_, rfl, u, _, rfl, .inl ⟨nkvs, Sum.inr e0, hu2, rfl, by rw [ndp.len]; exact big (by omega), rfl⟩, ?_⟩
  have s3 : Same H (upd H2 u (.dK (putK nkvs (Sum.inr e0) (.int 0)))) := Same.mut s2 hu
  have hu3 : (upd H2 u (.dK (putK nkvs (Sum.inr e0) (.int 0)))) u = some (.dK (putK nkvs (Sum.inr e0) (.int 0))) := upd_same
  generalize upd H2 u (.dK (putK nkvs (Sum.inr e0) (.int 0))) = H3 at s3 hu3 ⊢
  refine ⟨_, rfl, sta, skvs, rfl, .inr ⟨_, s3 _ _ hst⟩, fun a ha1 => ?_⟩
  have sa1 : Same H3 (upd H3 a (.dK skvs)) := same_new ha1
  have han : H a = none := s3.free ha1
  have hua : u ≠ a := fun z => by rw [← z, hu3] at ha1; cases ha1
  have ha2 : (upd H3 a (.dK skvs)) a = some (.dK skvs) := upd_same
  have hu4 := sa1 _ _ hu3
  have s4 := s3.trans sa1
  generalize upd H3 a (.dK skvs) = H4 at s4 ha2 hu4 ⊢
  refine ⟨_, rfl, a, _, rfl, .inl ⟨skvs, Sum.inr e0, ha2, rfl, by rw [sdp.len]; have := sok.len; exact big (by omega), rfl⟩, ?_⟩
  have s5 : Same H (upd H4 a (.dK (putK skvs (Sum.inr e0) (.int 0)))) := Same.mut s4 han
  have ha5 : (upd H4 a (.dK (putK skvs (Sum.inr e0) (.int 0)))) a = some (.dK (putK skvs (Sum.inr e0) (.int 0))) := upd_same
  have hu5 : (upd H4 a (.dK (putK skvs (Sum.inr e0) (.int 0)))) u = some (.dK (putK nkvs (Sum.inr e0) (.int 0))) := by rw [upd_ne hua]; exact hu4
  generalize upd H4 a (.dK (putK skvs (Sum.inr e0) (.int 0))) = H5 at s5 ha5 hu5 ⊢
  -- the values and the start, with zero
  have vdp : DicP rInt H (putK nkvs (Sum.inr e0) (.int 0)) (put nu e0 0) := DicP.put ndp rfl
  have adp : DicP rInt H (putK skvs (Sum.inr e0) (.int 0)) (put st e0 0) := DicP.put sdp rfl
  generalize putK nkvs (Sum.inr e0) (V.int 0) = VK at hu5 vdp
  generalize putK skvs (Sum.inr e0) (V.int 0) = AK at ha5 adp
  have hVl : (put nu e0 0).length ≤ 9 := by have := put_len (l := nu) (k := e0) (v := 0); omega
  have hVk : ∀ {x : Str}, x ∈ keys (put nu e0 0) → x = e0 ∨ x ∈ keys nu := fun h => mem_keys_put.mp h
  have hV : ∀ {x : Str}, x ∈ keys (put nu e0 0) → valV VK (Sum.inr x) = some (.int (src nu x)) := fun h => by
    obtain ⟨v, ev, rv⟩ := vdp.some (lk_src (hVk h))
    rw [ev, show v = _ from rv]
  have hAa : ∀ {x : Str}, x ∈ S → valV AK (Sum.inr x) = some (.int (src st x)) := fun h => by
    obtain ⟨v, ev, rv⟩ := adp.some (lk_src (sok.all _ h))
    rw [ev, show v = _ from rv]
  refine ⟨_, rfl, u, _, rfl, hu5, trivial, fun ou => ?_⟩
  have s6 : Same H (upd H5 u (.frz ou (.dK VK))) := Same.mut s5 hu
  have hu6 : (upd H5 u (.frz ou (.dK VK))) u = some (.frz ou (.dK VK)) := upd_same
  have ha6 : (upd H5 u (.frz ou (.dK VK))) a = some (.dK AK) := by rw [upd_ne hua.symm]; exact ha5
  generalize upd H5 u (.frz ou (.dK VK)) = H6 at s6 hu6 ha6 ⊢
  -- the sources that one may ask of
  have pick : ∀ (wd : Str) (H7 : Hp), Same H6 H7 → ∀ {x : Str}, x ∈ keys (put nu e0 0) → ∃ o, DGet H7 ka (.str x) o ∧ o.getD (.str "plain") = .str (kd h.kinds x) := fun wd H7 s7 x hx =>
    dget_kd ((s6.trans s7) _ _ hka) (kdp.mono (kp_of (s6.trans s7))) hok.ks.wf.ne (nm_kinds fo nok (hVk hx))
  have vdp6 : ∀ {H7 : Hp}, DicP rInt H7 VK (put nu e0 0) := fun {H7} => L2.Paired.mapP vdp fun _ _ z => ⟨z.1, z.2⟩
  have klen : ∀ (g : Str × Int → Bool), (((put nu e0 0).filter g).map (·.1)).length ≤ 9 := fun g => by
    rw [List.length_map]
    exact Nat.le_trans (List.length_filter_le _ _) hVl
  have kmem : ∀ {g : Str × Int → Bool} {x : Str}, x ∈ ((put nu e0 0).filter g).map (·.1) → x ∈ keys (put nu e0 0) ∧ ∃ v, g (x, v) = true := fun {g x} hx => by
    obtain ⟨y, hy, rfl⟩ := List.mem_map.mp hx
    obtain ⟨h1, h2⟩ := List.mem_filter.mp hy
    exact ⟨List.mem_map.mpr ⟨y, h1, rfl⟩, y.2, h2⟩
  refine ⟨u, ou, rfl, .inl ⟨VK, hu6, fun D hD => ?_⟩⟩
  refine lc_p (wd_keys (vdp6 (H7 := H6))) none rStr (fun z => !decide (kd h.kinds z.1 = "low")) (fun z => z.1) hD (go_refl _) (fun H' g => g _ _ hu6) (sz1000 (by omega)) (fun d2 z r2 v H7 H8 el2 go y fin1 fin2 => ?_) fun H7 acc go hD2 pa => ?_
  · obtain ⟨rfl, rfl⟩ := y
    have hzk : z.1 ∈ keys (put nu e0 0) := List.mem_map.mpr ⟨z, by rw [el2]; simp, rfl⟩
    obtain ⟨o, hg, eo⟩ := pick "low" _ go hzk
    refine ⟨rfl, _, rfl, ka, rfl, .inl ⟨kkvs, .inr ⟨kod, (s6.trans go) _ _ hka⟩⟩, _, rfl, o, hg, ?_⟩
    rw [eo]
    refine ⟨rfl, ?_⟩
    by_cases e : kd h.kinds z.1 = "low"
    · exact ⟨false, nbF (by rw [e]), iteF (fin2 _ (by rw [decide_eq_true e]; rfl) (go_refl _))⟩
    · exact ⟨true, nbT (fun q0 => e (V.str.inj q0)), iteT ⟨_, rfl, fin1 _ _ (by rw [decide_eq_false e]; rfl) (go_refl _) rfl⟩⟩
  have s7 : Same H6 H7 := go
  refine ⟨D, rfl, ⟨acc, .inl (.inl hD2)⟩, ?_⟩
  refine for_d (wd_list pa) (fun (dn : List Str) (σ : L2.St) (H' : Hp) => ∃ (y7 y8 y9 : Option V), σ = [some (V.ref ma), some (V.ref sa), some (V.ref fa), some (V.ref sta), some (V.ref ka), some (V.ref u), some (V.ref a), y7, y8, y9, none, none, none, none] ∧ Same H7 H') ?_ ?_ ?_ ?_
  · exact ⟨none, none, none, rfl, Same.refl _⟩
  · rintro dn σ H' ⟨_, _, _, _, s⟩
    exact .inl (.inl (s _ _ hD2))
  · rintro dn x rr v σ H8 H' el ⟨y7, y8, y9, rfl, s8⟩ ⟨rfl, rfl⟩
    obtain ⟨hxk, xv, hxp⟩ := kmem (g := fun z => !decide (kd h.kinds z.1 = "low")) (x := x) (by rw [el]; simp)
    have hxl : kd h.kinds x ≠ "low" := of_decide_eq_false (by simpa using hxp)
    have s9 : Same H6 H' := s7.trans s8
    refine ⟨_, rfl, u, ou, rfl, .inl ⟨VK, s9 _ _ hu6, fun D2 hD2n => ?_⟩⟩
    refine lc_p (wd_keys (vdp6 (H7 := H'))) none rStr (fun z => !decide (kd h.kinds z.1 = "high")) (fun z => z.1) hD2n (go_refl _) (fun H9 g => g _ _ (s9 _ _ hu6)) (sz1000 (by omega)) (fun d2 z r2 v H9 H10 el2 go y fin1 fin2 => ?_) fun H9 acc2 go2 hD22 pa2 => ?_
    · obtain ⟨rfl, rfl⟩ := y
      have hzk : z.1 ∈ keys (put nu e0 0) := List.mem_map.mpr ⟨z, by rw [el2]; simp, rfl⟩
      obtain ⟨o, hg, eo⟩ := pick "high" _ (s9.trans go) hzk
      refine ⟨rfl, _, rfl, ka, rfl, .inl ⟨kkvs, .inr ⟨kod, (s6.trans (s9.trans go)) _ _ hka⟩⟩, _, rfl, o, hg, ?_⟩
      rw [eo]
      refine ⟨rfl, ?_⟩
      by_cases e : kd h.kinds z.1 = "high"
      · exact ⟨false, nbF (by rw [e]), iteF (fin2 _ (by rw [decide_eq_true e]; rfl) (go_refl _))⟩
      · exact ⟨true, nbT (fun q0 => e (V.str.inj q0)), iteT ⟨_, rfl, fin1 _ _ (by rw [decide_eq_false e]; rfl) (go_refl _) rfl⟩⟩
    have s10 : Same H6 H9 := s9.trans go2
    refine ⟨D2, rfl, ⟨acc2, .inl (.inl hD22)⟩, ?_⟩
    refine for_d (wd_list pa2) (fun (en : List Str) (σ : L2.St) (H2' : Hp) => ∃ (y8 y9 : Option V), σ = [some (V.ref ma), some (V.ref sa), some (V.ref fa), some (V.ref sta), some (V.ref ka), some (V.ref u), some (V.ref a), some (V.str x), y8, y9, none, none, none, none] ∧ Same H9 H2') ?_ ?_ ?_ ?_
    · exact ⟨_, _, rfl, Same.refl _⟩
    · rintro en σ H10 ⟨_, _, _, s⟩
      exact .inl (.inl (s _ _ hD22))
    · rintro en y rr2 v2 σ H10 H11 el2 ⟨y8, y9, rfl, s11⟩ ⟨rfl, rfl⟩
      obtain ⟨hyk, yv, hyp⟩ := kmem (g := fun z => !decide (kd h.kinds z.1 = "high")) (x := y) (by rw [el2]; simp)
      have hyl : kd h.kinds y ≠ "high" := of_decide_eq_false (by simpa using hyp)
      have s12 : Same H6 H11 := s10.trans s11
      have s13 := s6.trans s12
      have hxT := nm_table fo nok (hVk hxk)
      have hyT := nm_table fo nok (hVk hyk)
      refine ⟨_, rfl, fa, dx, _, rfl, s13 _ _ hfa, ff_no (by decide +kernel), _, rfl, _, rfl, _, x, y, F, S, rfl, mo (kp_of s13) hF, fo.wf, hxT, hyT, fun v' ap H12 s14 ⟨apa, apo, e0', hap⟩ apok apl => ?_⟩
      subst e0'
      have s15 := s12.trans s14
      refine ⟨apa, apo, apK ap, rfl, hap, fun D3 hD3 => ?_⟩
      refine lc_m wd_itemsT none rInt (fun z => z.2 + src st z.1.1 - src st z.1.2) hD3 (go_refl _) (fun H13 g => g _ _ hap) (sz1000 (by omega)) (fun z v3 H13 H14 L hz go y fin => ?_) fun H13 acc3 go3 hD32 pa3 => ?_
      · obtain ⟨T0, c, rfl, hT0, hc, rfl⟩ := y
        obtain ⟨p1, hp1, q1, hq1, rfl⟩ := (apok z).mp hz
        have sT0 : Same H13 (upd H13 T0 (.tup [V.ref c, V.int (mkz p1 q1).2])) := same_new hT0
        have s16 := (s15.trans go).trans sT0
        have hp1S := (fo.wf.dict hxT).2.1 _ (List.mem_map.mpr ⟨p1, hp1, rfl⟩)
        have hq1S := (fo.wf.dict hyT).2.1 _ (List.mem_map.mpr ⟨q1, hq1, rfl⟩)
        refine ⟨T0, _, rfl, .inl (.inl upd_same), rfl, _, _, rfl, c, _, rfl, .inl (.inl (sT0 _ _ hc)), rfl, _, _, rfl, _, _, rfl, rfl, _, _, rfl, rfl, rfl, yes ?_⟩
        refine ⟨_, rfl, _, rfl, _, rfl, a, _, rfl, dgR (.inl (s16 _ _ ha6)) (hAa hp1S), _, _, rfl, rfl, _, rfl, _, rfl, a, _, rfl, dgR (.inl (s16 _ _ ha6)) (hAa hq1S), _, _, rfl, rfl, ?_⟩
        exact fin _ _ sT0 rfl
      have ea := ints_of pa3
      subst ea
      have s16 := s15.trans go3
      refine ⟨_, rfl, _, rfl, u, _, rfl, dgR (.inr ⟨ou, s16 _ _ hu6⟩) (hV hxk), _, rfl, _, rfl, u, _, rfl, dgR (.inr ⟨ou, s16 _ _ hu6⟩) (hV hyk), _, _, rfl, rfl, ?_⟩
      refine ⟨_, rfl, D3, _, rfl, .inl (.inl hD32), ?_, fun m h1 h2 => ⟨rfl, false, nbF ?_, iteF ?_⟩⟩
      · rw [List.length_map]
        obtain ⟨p1, hp1⟩ := List.exists_mem_of_ne_nil _ (fo.wf.dict hxT).2.2
        obtain ⟨q1, hq1⟩ := List.exists_mem_of_ne_nil _ (fo.wf.dict hyT).2.2
        exact List.length_pos_of_mem ((apok _).mpr ⟨p1, hp1, q1, hq1, rfl⟩)
      · exact congrArg V.int (apart_max apok (num_max fo hok nok (hVk hxk) hxl) (num_min fo hok nok (hVk hyk) hyl) h1 h2)
      · exact ⟨_, _, rfl, (s11.trans s14).trans go3⟩
    · rintro σ H10 ⟨y8, y9, rfl, s11⟩
      exact ⟨_, _, _, rfl, (s8.trans go2).trans s11⟩
  · rintro σ H8 ⟨y7, y8, y9, rfl, s8⟩
    exact q _ ((s6.trans s7).trans s8)
end Fp

/-! ## FpLaw -/
set_option Elab.async false
set_option linter.all false
set_option maxRecDepth 100000
set_option maxHeartbeats 4000000
namespace Fp
open PySem PySem.Spec PyProof.Rows L2
variable {P : Program} {w : World} {K : PySem.W.Frag} {mg : Str → Option Value} {base : Heap}
/-! ### plain: a start that is nowhere less -/
theorem num_mono {S : List Str} {F : Fm} {st st2 nu nu2 : Row} (wf : WfF S F) (h1 : NumOk st F nu) (h2 : NumOk st2 F nu2) (hs : ∀ y ∈ S, src st y ≤ src st2 y) {x : Str} {v v2 : Int} (e1 : lk nu x = some v) (e2 : lk nu2 x = some v2) : v ≤ v2 := by
  obtain ⟨r, er, a1⟩ := h1.at_ x v e1
  obtain ⟨r2, er2, a2⟩ := h2.at_ x v2 e2
  cases er.symm.trans er2
  have hr : ∀ p ∈ r, src st p.1 + p.2 ≤ src st2 p.1 + p.2 := fun p hp => by
    have := hs p.1 ((wf.row x r er).2.1 p.1 (List.mem_map.mpr ⟨p, hp, rfl⟩))
    omega
  unfold NumAt at a1 a2
  by_cases e : kindIn F.kinds x = "low"
  · rw [if_pos e] at a1 a2
    obtain ⟨p, hp, ep⟩ := sums_at.mp a2.1
    have h1 := a1.2 _ (sums_at.mpr ⟨p, hp, rfl⟩)
    have h2 := hr p hp
    omega
  · rw [if_neg e] at a1 a2
    obtain ⟨p, hp, ep⟩ := sums_at.mp a1.1
    have h1 := a2.2 _ (sums_at.mpr ⟨p, hp, rfl⟩)
    have h2 := hr p hp
    omega
theorem int3 {v : Int} (h0 : 0 ≤ v) (h1 : v < 3) : ∃ k : Nat, k ≤ 9 ∧ atI [V.int 1, V.int 4, V.int 9] v = some (.int ((k : Nat) : Int)) := by
  have : v = 0 ∨ v = 1 ∨ v = 2 := by omega
  rcases this with rfl | rfl | rfl
  · exact ⟨1, by decide, rfl⟩
  · exact ⟨4, by decide, rfl⟩
  · exact ⟨9, by decide, rfl⟩
/-- any moment's drawing -/
def S_momE : Sq := fun vs H Q => ∃ k, k ≤ 9 ∧ S_mom k vs H Q
theorem cal_momE (T : Tx K mg) (c_l_take : Cal P w K mg base 1 "_law_take" S_take) (c_l_gone_on : Cal P w K mg base 10 "_law_gone_on" (S_gone 4)) : Cal P w K mg base 20 "_law_drawn_moment" S_momE := by
  have all := mom_all (P := P) (w := w) (K := K) (mg := mg) (base := base) T c_l_take c_l_gone_on
  obtain ⟨f, F, hm, kp⟩ := (all 9).ex
  refine ⟨f, fun A st s H us vs Q E hr e0 r ⟨k, hk, h⟩ => ?_, hm, kp⟩
  obtain ⟨f2, F2, hm2, _⟩ := (all k).ex
  have e : f2 = f := by
    rw [hm] at hm2
    injection hm2 with z
    injection z with z
    exact z.symm
  subst e
  exact F2 A st s H us vs Q E (hr.mono (by omega)) e0 r h
/-! ### the law -/
def S_law (K : PySem.W.Frag) : Sq := fun vs H Q => ∃ (a : Addr) (cells : List Int), vs = [.ref a] ∧ SqL K H a (cells.map V.int) ∧ ∀ H', Q (.bl true) H'
/-- slots: 0 _law_script, 1 _law_bag_here*, 2 _law_turn, 3 _law_model_here, 4 _law_program_here, 5 _law_first, 6 _law_params, 7 _law_k, 8 _law_moment, 9 _law_start*, 10 _law_more, 11 _law_one*, 12 _law_other*, 13 _law_shape, 14 _law_name -/
abbrev N_law : List Str := [Str.ofString "_law_script", Str.ofString "_law_bag_here", Str.ofString "_law_turn", Str.ofString "_law_model_here", Str.ofString "_law_program_here", Str.ofString "_law_first", Str.ofString "_law_params", Str.ofString "_law_k", Str.ofString "_law_moment", Str.ofString "_law_start", Str.ofString "_law_more", Str.ofString "_law_one", Str.ofString "_law_other", Str.ofString "_law_shape", Str.ofString "_law_name"]
theorem sc_law : FnScope N_law [Str.ofString "_law_script"] (defScope s_law) := ⟨rfl, rfl, rfl, by decide +kernel, rfl, by decide +kernel, by decide +kernel⟩
theorem body_law (T : Tx K mg) (c_l_bag : Cal P w K mg base 1 "_law_bag" (S_bag K)) (c_l_take : Cal P w K mg base 1 "_law_take" S_take) (c_l_model : Cal P w K mg base 6 "_law_model" S_lmodel) (c_l_program : Cal P w K mg base 11 "_law_program" (S_lprogram K)) (c_l_drawn_moment : Cal P w K mg base 20 "_law_drawn_moment" S_momE)
    (c_l_drawn_start : Cal P w K mg base 3 "_law_drawn_start" S_lstart) (c_played : Cal P w K mg base 15 "played" (S_played K)) (c_form_at : Cal P w K mg base 14 "form_at" (S_form_at K 4)) (c_l_apart_right : Cal P w K mg base 5 "_law_apart_right" (S_apart_right K)) (c_l_steps_right : Cal P w K mg base 15 "_law_steps_right" (S_steps K)) :
    BodyOk P w K mg base N_law "law" s_law (a_law K) 20 (S_law K) := by
  intro cdv A outer s H vs Q E hr h
  obtain ⟨a, cells, rfl, ha, q⟩ := h
  refine ⟨_, (pss_cons (ps_set (i := 1) sc_law.nd rfl (.inr rfl) (pcall c_l_bag hr (by decide) rfl (pa_cons (pv 0) pa_nil)))
      (pss_cons (ps_for PassesOwn.never rfl (pi_range1 rfl (n_range T) (pa_cons pe_int pa_nil)) (pg_name (i := 2) sc_law.nd rfl (.inl rfl)) (pss_cons (ps_set (i := 3) sc_law.nd rfl (.inl rfl) (pcall c_l_model hr (by decide) rfl (pa_cons (pv 1) (pa_cons (pe_op op_add pe_int (pcall c_l_take hr (by decide) rfl (pa_cons (pv 1) (pa_cons pe_int pa_nil)))) (pa_cons pe_int pa_nil)))))
        (pss_cons (ps_par (i := 4) (j := 5) rfl sc_law.nd rfl rfl (by decide) rfl rfl (pa_cons (pcall c_l_program hr (by decide) rfl (pa_cons (pv 3) pa_nil)) (pa_cons (pe_dget (hu_of hr) (pv 3) pe_str (fun _ _ => rfl)) pa_nil)) (by rfl))
        (pss_cons (ps_set (i := 6) sc_law.nd rfl (.inl rfl) (pe_dget (hu_of hr) (pe_dget (hu_of hr) (pe_dget (hu_of hr) (pv 3) pe_str (fun _ _ => rfl)) (pv 5) (fun _ _ => rfl)) pe_str (fun _ _ => rfl)))
        (pss_one (ps_for PassesOwn.never rfl (pi_range1 rfl (n_range T) (pa_cons pe_int pa_nil)) (pg_name (i := 7) sc_law.nd rfl (.inl rfl)) (pss_cons (ps_asg (pe_tup (pa_cons (pcall c_l_drawn_moment hr (by decide) rfl (pa_cons (pv 1) (pa_cons (pv 3) (pa_cons (pv 5) (pa_cons (pe_ix (ixL K rfl) (pe_lst (pa_cons pe_int (pa_cons pe_int (pa_cons pe_int pa_nil)))) (pcall c_l_take hr (by decide) rfl (pa_cons (pv 1) (pa_cons pe_int pa_nil))) (fun _ _ => rfl)) pa_nil))))) (pa_cons pe_dnewK pa_nil))) (pgTup (n := 2) K rfl rfl (pgs_cons (pg_name (i := 8) sc_law.nd rfl (.inl rfl)) (pgs_cons (pg_name (i := 9) sc_law.nd rfl (.inr rfl)) pgs_nil))))
          (pss_cons (ps_set (i := 9) sc_law.nd rfl (.inr rfl) (pcall c_l_drawn_start hr (by decide) rfl (pa_cons (pv 1) (pa_cons (pv 6) pa_nil))))
          (pss_cons (ps_set (i := 10) sc_law.nd rfl (.inl rfl) (pe_fz (pe_callTy (call_dictP rfl) rfl (n_dict T) (by decide +kernel) (pa_cons (pe_lc (own := [("_law_name", 14)]) (g := gName 14) rfl sc_law.nd (piTup K rfl (pv 6)) (blkOk_by (own := [("_law_name", 14)]) (N := N_law) (sc := defScope s_law) (by decide +kernel)) (fun _ _ _ _ _ => (pg_name (i := 14) sc_law.nd rfl (.inl rfl))) (fun _ _ _ _ _ => pts_nil) (fun _ _ _ _ _ => (pe_tup (pa_cons (pv 14) (pa_cons (pe_op op_add (pe_dget (hu_of hr) (pv 9) (pv 14) (fun _ _ => rfl)) (pcall c_l_take hr (by decide) rfl (pa_cons (pv 1) (pa_cons pe_int pa_nil)))) pa_nil))))) pa_nil))))
          (pss_cons (ps_asg (pe_tup (pa_cons (pcall c_played hr (by decide) rfl (pa_cons (pv 4) (pa_cons (pv 8) (pa_cons (pv 9) pa_nil)))) (pa_cons (pcall c_played hr (by decide) rfl (pa_cons (pv 4) (pa_cons (pv 8) (pa_cons (pv 10) pa_nil)))) pa_nil))) (pgTup (n := 2) K rfl rfl (pgs_cons (pg_name (i := 11) sc_law.nd rfl (.inr rfl)) (pgs_cons (pg_name (i := 12) sc_law.nd rfl (.inr rfl)) pgs_nil))))
          (pss_cons (ps_set (i := 13) sc_law.nd rfl (.inl rfl) (pe_ix (ixT K rfl) (pcall c_form_at hr (by decide) rfl (pa_cons (pv 4) (pa_cons (pv 8) pa_nil))) pe_int (fun _ _ => rfl)))
          (pss_cons (ps_if (PW.pt (pw_or (pt_not (pt_val (pcall c_l_apart_right hr (by decide) rfl (pa_cons (pv 3) (pa_cons (pv 11) (pa_cons (pv 13) (pa_cons (pv 9) pa_nil))))))) (pw_or1 (pt_not (pt_val (pcall c_l_apart_right hr (by decide) rfl (pa_cons (pv 3) (pa_cons (pv 12) (pa_cons (pv 13) (pa_cons (pv 10) pa_nil)))))))))) (pss_one (ps_ret pe_bl)) pss_nil)
          (pss_cons (ps_if (pt_cmpR (neD K rfl hr.units) (pe_lc (own := [("_law_name", 14)]) (g := gName 14) rfl sc_law.nd (pi_keys (pe_ix (ixT K rfl) (pv 11) pe_int (fun _ _ => rfl))) (blkOk_by (own := [("_law_name", 14)]) (N := N_law) (sc := defScope s_law) (by decide +kernel)) (fun _ _ _ _ _ => (pg_name (i := 14) sc_law.nd rfl (.inl rfl))) (fun _ _ _ _ _ => (pts_one (pt_cmpR op_gt (pe_dget (hu_of hr) (pe_ix (ixT K rfl) (pv 11) pe_int (fun _ _ => rfl)) (pv 14) (fun _ _ => rfl)) (pe_dget (hu_of hr) (pe_ix (ixT K rfl) (pv 12) pe_int (fun _ _ => rfl)) (pv 14) (fun _ _ => rfl)) (nomark _)))) (fun _ _ _ _ _ => (pv 14))) (pe_lst pa_nil) (nomark _)) (pss_one (ps_ret pe_bl)) pss_nil)
          (pss_one (ps_if (pt_not (pt_val (pcall c_l_steps_right hr (by decide) rfl (pa_cons (pv 4) (pa_cons (pv 8) pa_nil))))) (pss_one (ps_ret pe_bl)) pss_nil)))))))))))))))
      (pss_one (ps_ret pe_bl)))), ?_⟩
  refine ⟨_, rfl, a, cells, rfl, ha, fun b H1 s1 bag => ?_⟩
  refine ⟨_, rfl, by decide, by decide, ?_⟩
  refine for_d wd_range (fun (dn : List Nat) (σ : L2.St) (H' : Hp) => ∃ (y2 y3 y4 y5 y6 y7 y8 y9 y10 y11 y12 y13 : Option V), σ = [some (V.ref a), some (V.ref b), y2, y3, y4, y5, y6, y7, y8, y9, y10, y11, y12, y13, none] ∧ Go (some b) H1 H') ?_ ?_ ?_ ?_
  · exact ⟨_, _, _, _, _, _, _, _, _, _, _, _, rfl, go_bag bag⟩
  · intro _ _ _ _; trivial
  · rintro dn i rr x σ H2 H' el ⟨y2, y3, y4, y5, y6, y7, y8, y9, y10, y11, y12, y13, rfl, g2⟩ ⟨rfl, rfl⟩
    refine ⟨_, rfl, _, rfl, b, _, rfl, g2.bag, by decide, by decide, fun v H3 g3 h30 h31 => ?_⟩
    refine ⟨_, _, rfl, rfl, b, _, _, rfl, g3.bag, by omega, by omega, by decide, by decide, fun mv first F H4 g4 hM mok => ?_⟩
    have gA := (g2.trans g3).trans g4
    obtain ⟨ma, mod, mkvs, hv, rfl, hma, ef, ep, d, od, kvs, rfl, hd, dp⟩ := id hM
    obtain ⟨hd0, hlk⟩ := lk_some mok.first
    refine ⟨_, rfl, _, first, F, rfl, hM, mok, fun gv H5 s5 hg => ?_⟩
    have hM5 : MdAt H5 (.ref ma) first F := hM.go (m := none) s5
    have g5 := gA.same s5
    refine ⟨_, rfl, ma, _, rfl, dgR (.inr ⟨mod, s5 _ _ hma⟩) ef, _, _, rfl, ?_⟩
    obtain ⟨hv0, ev0, ha0⟩ := dp.some hlk
    obtain ⟨ha, rfl, hA⟩ := id ha0
    obtain ⟨akvs, kv, pv_, rv, wv, ho, hol, ek, rk, ep', rp, er, rr', es, ew, rw_⟩ := hA.ex
    refine ⟨_, rfl, ma, _, rfl, dgR (.inr ⟨mod, s5 _ _ hma⟩) ep, _, rfl, d, _, rfl, dgR (.inr ⟨od, s5 _ _ hd⟩) ev0, ha, _, rfl, dgR (rd_go (m := none) s5 ho) ep', ?_⟩
    have okpg : OkPg (sortG (pgF F)) := okPg_sort (okPg_of mok)
    have hfk : first ∈ keys (pgS F) := by rw [sortG_keys]; exact mem_srt.mpr (by rw [pgF_keys]; exact mok.first)
    have hpr : prOf (pgS F) first = prH hd0 := pg_lk hlk
    have hok : HdOk hd0 := mok.ok.ok _ (lk_mem hlk)
    have rp5 := mo (kp_of s5) rp
    obtain ⟨pa, pxs, rfl, hpa, ppx⟩ := id rp5
    have hpn : ∀ z ∈ hd0.params, z ≠ e0 := fun z hz e => hok.ks.wf.ne (e ▸ hok.ps.2.2 z hz)
    have stOk : ∀ {st : Row}, (keys st).Perm hd0.params → StOk (e0 :: (prOf (pgS F) first).params) st := fun {st} pm => by
      have hl := pm.length_eq
      have := hok.ps.2.1
      unfold keys at hl
      rw [List.length_map] at hl
      refine ⟨pm.nodup_iff.mpr hok.ps.1, fun z => hpn _ (pm.mem_iff.mp z) rfl, by omega, fun y hy => ?_⟩
      rw [hpr] at hy
      exact (List.mem_cons.mp hy).imp id fun z => pm.mem_iff.mpr z
    refine ⟨_, rfl, by decide, by decide, ?_⟩
    refine for_d wd_range (fun (dn : List Nat) (σ : L2.St) (H' : Hp) => ∃ (y7 y8 y9 y10 y11 y12 y13 : Option V), σ = [some (V.ref a), some (V.ref b), some (V.int (i : Nat)), some (V.ref ma), some gv, some (V.str first), some (V.ref pa), y7, y8, y9, y10, y11, y12, y13, none] ∧ Go (some b) H5 H') ?_ ?_ ?_ ?_
    · exact ⟨_, _, _, _, _, _, _, rfl, go_bag g5.bag⟩
    · intro _ _ _ _; trivial
    · rintro dn2 j rr2 x2 σ H6 H' el2 ⟨y7, y8, y9, y10, y11, y12, y13, rfl, g6⟩ ⟨rfl, rfl⟩
      refine ⟨_, rfl, _, rfl, _, rfl, ln3, fun l hl => ?_⟩
      have gl := g6.new (x := .lst [V.int 1, V.int 4, V.int 9]) hl
      have hlb := (go_bag g6.bag).nb' hl
      have hl1 : (upd H' l (.lst [V.int 1, V.int 4, V.int 9])) l = some (.lst [V.int 1, V.int 4, V.int 9]) := upd_same
      generalize upd H' l (.lst [V.int 1, V.int 4, V.int 9]) = H7 at gl hl1 ⊢
      refine ⟨_, rfl, b, _, rfl, gl.bag, by decide, by decide, fun v8 H8 g8 h80 h81 => ?_⟩
      obtain ⟨k, hk9, hat⟩ := int3 h80 h81
      have gB := gl.trans g8
      refine ⟨_, _, _, _, rfl, rfl, .inl (.inl (g8.own hlb hl1)), hat, k, hk9, b, _, first, first, F, rfl, gB.bag, hM5.go gB, mok, mok.first, hk9, fun mv M H9 g9 hMv hWM hML => ?_⟩
      have gC := gB.trans g9
      intro e1 he1
      have gD := gC.new (x := .dK []) he1
      have kD : Keep H9 (upd H9 e1 (.dK [])) := kp_new he1
      have hMvD := mo (R := rMom 4) kD hMv
      generalize upd H9 e1 (.dK []) = H10 at gD kD hMvD ⊢
      refine ⟨ln2, fun t0 ht0 => ⟨t0, _, rfl, .inl (.inl upd_same), rfl, _, _, rfl, _, _, rfl, rfl, ?_⟩⟩
      have gE := gD.new (x := .tup [mv, V.ref e1]) ht0
      have hMvE := mo (R := rMom 4) (kp_new (o := .tup [mv, V.ref e1]) ht0) hMvD
      generalize upd H10 t0 (.tup [mv, V.ref e1]) = H11 at gE hMvE ⊢
      -- the starts
      refine ⟨_, rfl, _, rfl, b, _, hd0.params, rfl, gE.bag, mo gE.keep rp5, hok.ps.1, by have := hok.ps.2.1; omega, fun sv st H12 g12 hst pm => ?_⟩
      have gF := gE.trans g12
      obtain ⟨sta, stod, stkvs, rfl, hsta, stdp⟩ := id hst
      refine ⟨_, rfl, pa, rfl, ⟨pxs, .inl (.inl (gF.keep _ _ trivial hpa))⟩, fun D hD => ?_⟩
      refine lc_r (wd_tup ppx) (some b) rPart (fun z t => t.1 = z ∧ src st z ≤ t.2) hD (go_bag gF.bag) (fun H' g => .inl (.inl (g.keep _ _ trivial (gF.keep _ _ trivial hpa)))) (sz1000 (by have := hok.ps.2.1; omega)) (fun z v H13 H14 N S hz go y fin => ?_) fun H13 acc zs go hD2 pz pA => ?_
      · obtain ⟨rfl, rfl⟩ := y
        have hzk : z ∈ keys st := pm.mem_iff.mpr hz
        obtain ⟨c, ec⟩ := lk_some hzk
        obtain ⟨cv, ecv, rcv⟩ := stdp.some ec
        have ecs : src st z = c := by
          unfold src
          rw [if_neg (hpn z hz), ec]
          rfl
        obtain rfl : cv = .int c := rcv
        refine ⟨rfl, yes ⟨_, rfl, _, rfl, _, rfl, sta, _, rfl, dgR (.inr ⟨stod, go.keep _ _ trivial hsta⟩) ecv, _, rfl, b, _, rfl, go.bag, by decide, by decide, fun i2 H15 g15 h150 h151 => ⟨_, _, rfl, rfl, ln2, fun t ht => ?_⟩⟩⟩
        exact fin _ _ (z, c + i2) ((show Go (some b) H14 H15 from g15).new ht) ⟨rfl, by rw [ecs]; show c ≤ c + i2; omega⟩ ⟨t, _, _, rfl, upd_same, rfl, rfl⟩
      obtain ⟨ps, eps, hps⟩ := parts_refs (K := K) pz
      have ekz : keys zs = hd0.params := p_fst2 (L2.Paired.mapP pA fun _ _ q => q.1)
      have hzn : (keys zs).Nodup := by rw [ekz]; exact hok.ps.1
      refine ⟨D, ps, _, rfl, .inl (.inl (by rw [hD2, eps])), hps, fun q1 hq1 => ⟨q1, _, rfl, upd_same, trivial, fun od2 => ?_⟩⟩
      rw [upd_upd]
      have gG := (gF.trans go).new (x := .frz od2 (.dK (mergeK [] (zs.map fun p => ((Sum.inr p.1 : Key), V.int p.2))))) hq1
      have goG := (go.new (x := .frz od2 (.dK (mergeK [] (zs.map fun p => ((Sum.inr p.1 : Key), V.int p.2))))) hq1)
      have hq2 : rDic rInt (upd H13 q1 (.frz od2 (.dK (mergeK [] (zs.map fun p => ((Sum.inr p.1 : Key), V.int p.2)))))) (.ref q1) zs := ⟨q1, od2, _, rfl, upd_same, by
        have := merge_mk (H := upd H13 q1 (.frz od2 (.dK (mergeK [] (zs.map fun p => ((Sum.inr p.1 : Key), V.int p.2)))))) zs
        rw [nd_map hzn] at this
        exact this⟩
      generalize upd H13 q1 (.frz od2 (.dK (mergeK [] (zs.map fun p => ((Sum.inr p.1 : Key), V.int p.2))))) = H14 at gG goG hq2 ⊢
      have hst14 := mo goG.keep hst
      have hMv14 := mo (R := rMom 4) (g12.keep.trans goG.keep) hMvE
      have hg14 : rPg K H14 gv (first, pgS F) := mo gG.keep hg
      have ok1 := stOk pm
      have ok2 := stOk (st := zs) (by rw [ekz])
      have hmono : ∀ y ∈ e0 :: (prOf (pgS F) first).params, src st y ≤ src zs y := fun y hy => by
        rw [hpr] at hy
        rcases List.mem_cons.mp hy with e | hy
        · rw [e]; unfold src; rw [if_pos rfl, if_pos rfl]; exact Int.le_refl _
        · obtain ⟨c, hc⟩ := lk_some (show y ∈ keys zs by rw [ekz]; exact hy)
          obtain ⟨z, hz, e1, e2⟩ := pf_mem2 pA _ (lk_mem hc)
          have e3 : src zs y = c := by
            unfold src
            rw [if_neg (hpn y hy), hc]
            rfl
          rw [e3]
          change y = z at e1
          rw [e1]
          exact e2
      -- played, twice
      obtain ⟨_, okf⟩ := okpg.at hfk
      obtain ⟨hnk, fo⟩ := mom_ok okpg hfk (begin_ok okf) hWM
      obtain ⟨hn, hln⟩ : ∃ hn, lk F (momF (pgS F) 4 first (begin_ (prOf (pgS F) first)) M).1 = some hn := lk_some (by
        rw [sortG_keys] at hnk
        have := mem_srt.mp hnk
        rwa [pgF_keys] at this)
      have hprn := pg_lk hln
      refine ⟨_, rfl, _, rfl, _, rfl, gv, mv, _, first, pgS F, M, st, rfl, hg14, okpg, hfk, hMv14, hWM, hst14, ok1, fun a1 pl1 nv1 nu1 H15 s15 ha1 hnu1 nok1 => ?_⟩
      refine ⟨_, rfl, _, rfl, _, rfl, gv, mv, _, first, pgS F, M, zs, rfl, mo (kp_of s15) hg14, okpg, hfk, mo (R := rMom 4) (kp_of s15) hMv14, hWM, mo (kp_of s15) hq2, ok2, fun a2 pl2 nv2 nu2 H16 s16 ha2 hnu2 nok2 => ?_⟩
      refine ⟨ln2, fun t1 ht1 => ⟨t1, _, rfl, .inl (.inl upd_same), rfl, _, _, rfl, _, _, rfl, rfl, ?_⟩⟩
      have st1 : Same H16 (upd H16 t1 (.tup [V.ref a1, V.ref a2])) := same_new ht1
      have ha1' := st1 _ _ (s16 _ _ ha1)
      have ha2' := st1 _ _ ha2
      have hnu1' := mo (kp_of (s16.trans st1)) hnu1
      have hnu2' := mo (kp_of st1) hnu2
      have s17 := (s15.trans s16).trans st1
      generalize upd H16 t1 (.tup [V.ref a1, V.ref a2]) = H17 at s17 ha1' ha2' hnu1' hnu2' ⊢
      -- the Form
      refine ⟨_, rfl, _, rfl, gv, mv, first, pgS F, M, rfl, mo (kp_of s17) hg14, okpg, hfk, mo (R := rMom 4) (kp_of s17) hMv14, hWM, fun a3 pl3 fv H18 s18 ha3 hfv => ?_⟩
      refine ⟨_, _, _, _, rfl, rfl, .inl (.inl ha3), at2, ?_⟩
      have s19 := s17.trans s18
      have gH := gG.same s19
      generalize momF (pgS F) 4 first (begin_ (prOf (pgS F) first)) M = R at *
      rw [hprn] at fo
      -- apart
      refine ⟨_, rfl, _, rfl, _, rfl, _, rfl, _, fv, _, nv1, a1, first, R.1, F, hn, pl1, R.2, st, nu1, _, _, rfl, hM5.go gH, mok, hln, s18 _ _ ha1', mo (kp_of s18) hnu1', hfv, fo, nok1, mo (kp_of s19) hst14, ok1, fun H20 s20 => ⟨true, rfl, iteF ?_⟩⟩
      have gI := gH.same s20
      refine ⟨_, rfl, _, rfl, _, rfl, _, rfl, _, fv, _, nv2, a2, first, R.1, F, hn, pl2, R.2, zs, nu2, _, _, rfl, hM5.go gI, mok, hln, s20 _ _ (s18 _ _ ha2'), mo (kp_of (s18.trans s20)) hnu2', mo (kp_of s20) hfv, fo, nok2, mo (kp_of (s19.trans s20)) hq2, ok2, fun H21 s21 => ⟨true, rfl, iteF ?_⟩⟩
      have s22 := s19.trans (s20.trans s21)
      have s23 : Same H17 H21 := s18.trans (s20.trans s21)
      have gJ := gI.same s21
      -- no number is less
      obtain ⟨n1, no1, nk1, rfl, hn1, nd1⟩ := mo (kp_of s23) hnu1'
      obtain ⟨n2, no2, nk2, rfl, hn2, nd2⟩ := mo (kp_of s23) hnu2'
      have b1 := s23 _ _ ha1'
      have b2 := s23 _ _ ha2'
      refine ⟨_, rfl, _, _, _, _, rfl, rfl, .inl (.inl b1), at2, n1, no1, rfl, .inl ⟨nk1, hn1, fun D2 hD2n => ?_⟩⟩
      have nul : nu1.length ≤ 8 := by
        have h1 := congrArg List.length nok1.keys
        rw [len_srt] at h1
        have h2 := fo.wf.len
        unfold keys at h1
        rw [List.length_map, List.length_map] at h1
        omega
      refine lc_p (wd_keys nd1) none rInt (fun _ => false) (fun _ => 0) hD2n (go_refl _) (fun H' g => g _ _ hn1) (sz1000 (by omega)) (fun d2 z r2 v H22 H23 el3 go2 y fin1 fin2 => ?_) fun H22 acc2 go2 hD22 pa2 => ?_
      · obtain ⟨rfl, rfl⟩ := y
        have hz1 : z.1 ∈ keys nu1 := List.mem_map.mpr ⟨z, by rw [el3]; simp, rfl⟩
        have hz2 : z.1 ∈ keys nu2 := by rw [nok2.keys, ← nok1.keys]; exact hz1
        obtain ⟨w1, e1⟩ := lk_some hz1
        obtain ⟨w2, e2⟩ := lk_some hz2
        obtain ⟨u1, eu1, ru1⟩ := nd1.some e1
        obtain ⟨u2, eu2, ru2⟩ := nd2.some e2
        obtain rfl : u1 = .int w1 := ru1
        obtain rfl : u2 = .int w2 := ru2
        have hle := num_mono fo.wf nok1 nok2 hmono e1 e2
        refine ⟨rfl, _, rfl, _, _, _, _, rfl, rfl, .inl (.inl (go2 _ _ b1)), at2, _, rfl, n1, _, rfl, dgR (.inr ⟨no1, go2 _ _ hn1⟩) eu1, _, rfl, _, _, _, _, rfl, rfl, .inl (.inl (go2 _ _ b2)), at2, _, rfl, n2, _, rfl, dgR (.inr ⟨no2, go2 _ _ hn2⟩) eu2, _, _, rfl, rfl, false, bF (by omega), iteF (fin2 _ rfl (go_refl _))⟩
      have ea2 := ints_of pa2
      have eN : (List.filter (fun _ => false) nu1 : Row) = [] := List.filter_eq_nil_iff.mpr fun _ _ => Bool.false_ne_true
      rw [eN] at ea2
      subst ea2
      have s24 : Same H21 H22 := go2
      refine ⟨Nat.zero_le _, fun l2 hl2 => ne_nilI (zs := []) (.inl (.inl (same_new hl2 _ _ hD22))) (.inl (.inl upd_same)) ⟨false, nbF rfl, iteF ?_⟩⟩
      have s25 : Same H22 (upd H22 l2 (.lst [])) := same_new hl2
      generalize upd H22 l2 (.lst []) = H24 at s25 ⊢
      have s26 := s22.trans (s24.trans s25)
      have gK := gJ.same (s24.trans s25)
      -- the steps
      refine ⟨_, rfl, _, rfl, gv, mv, first, pgS F, M, rfl, mo (kp_of s26) hg14, okpg, hfk, mo (R := rMom 4) (kp_of s26) hMv14, hWM, hML, fun H25 s27 => ⟨true, rfl, iteF ?_⟩⟩
      exact ⟨_, _, _, _, _, _, _, rfl, gK.same s27⟩
    · rintro σ H6 ⟨y7, y8, y9, y10, y11, y12, y13, rfl, g6⟩
      exact ⟨_, _, _, _, _, _, _, _, _, _, _, _, rfl, g5.trans g6⟩
  · rintro σ H2 ⟨y2, y3, y4, y5, y6, y7, y8, y9, y10, y11, y12, y13, rfl, g2⟩
    exact q _
end Fp

/-! ## FpEnd -/
set_option Elab.async false
set_option linter.all false
set_option maxRecDepth 100000
set_option maxHeartbeats 4000000
namespace Fp
open PySem PySem.Spec PyProof.Rows L2
/-! ### all promises, joined -/
theorem law_all {P : Program} {w : World} {K : PySem.W.Frag} {mg : Str → Option Value} {base : Heap} (T : Tx K mg) : BodyOk P w K mg base N_law "law" s_law (a_law K) 20 (S_law K) := by
  have c_l_bag := cal_of (f_l_bag T) (g_l_bag T) (r_bag (P := P) (w := w) (base := base) T)
  have c_l_take := cal_of (f_l_take T) (g_l_take T) (r_take (P := P) (w := w) (base := base) T)
  have c_l_names := cal_of (f_l_names T) (g_l_names T) (r_names (P := P) (w := w) (base := base) T c_l_take)
  have c_l_mixed := cal_of (f_l_mixed T) (g_l_mixed T) (r_mixed (P := P) (w := w) (base := base) T c_l_take)
  have c_l_kinds := cal_of (f_l_kinds T) (g_l_kinds T) (r_lkinds (P := P) (w := w) (base := base) T c_l_take)
  have c_l_head := cal_of (f_l_head T) (g_l_head T) (r_lhead (P := P) (w := w) (base := base) T c_l_take c_l_mixed c_l_names c_l_kinds)
  have c_l_number := cal_of (f_l_number T) (g_l_number T) (r_number (P := P) (w := w) (base := base) T c_l_take)
  have c_l_part := cal_of (f_l_part T) (g_l_part T) (r_lpart (P := P) (w := w) (base := base) T c_l_take c_l_number)
  have c_l_statement := cal_of (f_l_statement T) (g_l_statement T) (r_lstm (P := P) (w := w) (base := base) T c_l_take c_l_mixed c_l_part)
  have c_l_call := cal_of (f_l_call T) (g_l_call T) (r_lcall (P := P) (w := w) (base := base) T c_l_take c_l_mixed c_l_part)
  have c_l_ways := cal_of (f_l_ways T) (g_l_ways T) (r_lways (P := P) (w := w) (base := base) T c_l_take c_l_statement c_l_call)
  have c_l_model := cal_of (f_l_model T) (g_l_model T) (r_lmodel (P := P) (w := w) (base := base) T c_l_take c_l_names c_l_head c_l_ways)
  have c_is_name := cal_of (f_is_name T) (g_is_name T) (r_is_name (P := P) (w := w) (base := base) T)
  have c_is_kind := cal_of (f_is_kind T) (g_is_kind T) (r_is_kind (P := P) (w := w) (base := base) T)
  have c_are_kinds := cal_of (f_are_kinds T) (g_are_kinds T) (r_are_kinds (P := P) (w := w) (base := base) T c_is_name c_is_kind)
  have c_are_different := cal_of (f_are_different T) (g_are_different T) (r_are_different (P := P) (w := w) (base := base) T)
  have c_are_names := cal_of (f_are_names T) (g_are_names T) (r_are_names (P := P) (w := w) (base := base) T c_is_name c_are_different)
  have c_is_integer := cal_of (f_is_integer T) (g_is_integer T) (r_is_integer (P := P) (w := w) (base := base) T)
  have c_is_source := cal_of (f_is_source T) (g_is_source T) (r_is_source (P := P) (w := w) (base := base) T c_is_name)
  have c_is_part := cal_of (f_is_part T) (g_is_part T) (r_is_part (P := P) (w := w) (base := base) T c_is_source c_is_integer)
  have c_is_set_part := cal_of (f_is_set_part T) (g_is_set_part T) (r_is_set_part (P := P) (w := w) (base := base) T c_is_name c_is_part)
  have c_is_set := cal_of (f_is_set T) (g_is_set T) (r_is_set (P := P) (w := w) (base := base) T c_is_set_part c_are_different)
  have c_are_parts := cal_of (f_are_parts T) (g_are_parts T) (r_are_parts (P := P) (w := w) (base := base) T c_is_part)
  have c_is_call := cal_of (f_is_call T) (g_is_call T) (r_is_call (P := P) (w := w) (base := base) T c_is_name c_are_parts c_are_names)
  have c_is_statement := cal_of (f_is_statement T) (g_is_statement T) (r_is_statement (P := P) (w := w) (base := base) T c_is_set c_is_name c_are_parts c_is_call)
  have c_is_way := cal_of (f_is_way T) (g_is_way T) (r_is_way (P := P) (w := w) (base := base) T c_is_statement c_is_integer)
  have c_frozen := cal_of (f_frozen T) (g_frozen T) (r_frozen (P := P) (w := w) (base := base) T)
  have c_sets := cal_of (f_sets T) (g_sets T) (r_sets (P := P) (w := w) (base := base) T)
  have c_parts_of := cal_of (f_parts_of T) (g_parts_of T) (r_parts_of (P := P) (w := w) (base := base) T)
  have c_reads := cal_of (f_reads T) (g_reads T) (r_reads (P := P) (w := w) (base := base) T c_parts_of)
  have c_Procedure_need_names := calS_of (f_Procedure_need_names T) (m_Procedure_need_names T) (Fp.c_Procedure T) (r_need_names (P := P) (w := w) (base := base) T c_sets c_reads)
  have c_Procedure_need_place := calS_of (f_Procedure_need_place T) (m_Procedure_need_place T) (Fp.c_Procedure T) (r_need_place (P := P) (w := w) (base := base) T)
  have c_Procedure_need_places := calS_of (f_Procedure_need_places T) (m_Procedure_need_places T) (Fp.c_Procedure T) (r_need_places (P := P) (w := w) (base := base) T c_Procedure_need_place)
  have c_targets := cal_of (f_targets T) (g_targets T) (r_targets (P := P) (w := w) (base := base) T)
  have c_fits := cal_of (f_fits T) (g_fits T) (r_fits (P := P) (w := w) (base := base) T)
  have c_Procedure_kind := calS_of (f_Procedure_kind T) (m_Procedure_kind T) (Fp.c_Procedure T) (r_Procedure_kind (P := P) (w := w) (base := base) T)
  have c_Procedure_need_kinds := calS_of (f_Procedure_need_kinds T) (m_Procedure_need_kinds T) (Fp.c_Procedure T) (r_need_kinds (P := P) (w := w) (base := base) T c_targets c_fits c_Procedure_kind)
  have c_Procedure : Mak P w K mg base _ "Procedure" (He.ga K "Procedure") _ := ⟨⟨_, k_Procedure T, (r_Procedure_init (P := P) (w := w) (base := base) T c_are_kinds c_are_names c_is_integer c_is_way c_frozen c_Procedure_need_names c_Procedure_need_places c_Procedure_need_kinds), g_Procedure T⟩⟩
  have c_l_procedure := cal_of (f_l_procedure T) (g_l_procedure T) (r_lprocedure (P := P) (w := w) (base := base) T c_Procedure)
  have c_are_procedures := cal_of (f_are_procedures T) (g_are_procedures T) (r_are_procedures (P := P) (w := w) (base := base) T c_is_name)
  have c_Program_need := calS_of (f_Program_need T) (m_Program_need T) (Fp.c_Program T) (r_Program_need (P := P) (w := w) (base := base) T)
  have c_Procedure_ways := calS_of (f_Procedure_ways T) (m_Procedure_ways T) (Fp.c_Procedure T) (r_Procedure_ways (P := P) (w := w) (base := base) T)
  have c_calls := cal_of (f_calls T) (g_calls T) (r_calls (P := P) (w := w) (base := base) T c_Procedure_ways)
  have c_Program_need_called := calS_of (f_Program_need_called T) (m_Program_need_called T) (Fp.c_Program T) (r_need_called (P := P) (w := w) (base := base) T c_calls c_Program_need)
  have c_Procedure_params : CalP P w K mg base _ (He.ga K "Procedure") "params" _ := ⟨⟨_, _, (r_Procedure_params (P := P) (w := w) (base := base) T), p_Procedure_params T, Fp.c_Procedure T⟩⟩
  have c_Procedure_results : CalP P w K mg base _ (He.ga K "Procedure") "results" _ := ⟨⟨_, _, (r_Procedure_results (P := P) (w := w) (base := base) T), p_Procedure_results T, Fp.c_Procedure T⟩⟩
  have c_is_fit := cal_of (f_is_fit T) (g_is_fit T) (r_is_fit (P := P) (w := w) (base := base) T c_fits c_Procedure_params c_Procedure_results c_Procedure_kind)
  have c_Program_need_fit := calS_of (f_Program_need_fit T) (m_Program_need_fit T) (Fp.c_Program T) (r_need_fit (P := P) (w := w) (base := base) T c_calls c_is_fit)
  have c_Program : Mak P w K mg base _ "Program" (He.ga K "Program") _ := ⟨⟨_, k_Program T, (r_Program_init (P := P) (w := w) (base := base) T c_are_procedures c_is_name c_Program_need c_Program_need_called c_Program_need_fit), g_Program T⟩⟩
  have c_l_program := cal_of (f_l_program T) (g_l_program T) (r_lprogram (P := P) (w := w) (base := base) T c_l_procedure c_Program)
  have c_l_gone_on := (drawn_all (P := P) (w := w) (base := base) T c_l_take 4).1
  have c_l_drawn_moment := cal_momE (P := P) (w := w) (base := base) T c_l_take c_l_gone_on
  have c_l_drawn_start := cal_of (f_l_drawn_start T) (g_l_drawn_start T) (r_lstart (P := P) (w := w) (base := base) T c_l_mixed c_l_number)
  have c_Procedure_need_way := calS_of (f_Procedure_need_way T) (m_Procedure_need_way T) (Fp.c_Procedure T) (r_Procedure_need_way (P := P) (w := w) (base := base) T)
  have c_Procedure_way := calS_of (f_Procedure_way T) (m_Procedure_way T) (Fp.c_Procedure T) (r_Procedure_way (P := P) (w := w) (base := base) T c_Procedure_need_way)
  have c_Program_getitem := calS_of (f_Program_getitem T) (m_Program_getitem T) (Fp.c_Program T) (r_Program_getitem (P := P) (w := w) (base := base) T c_Program_need)
  have c_Procedure_names := calS_of (f_Procedure_names T) (m_Procedure_names T) (Fp.c_Procedure T) (r_Procedure_names (P := P) (w := w) (base := base) T)
  have c_kinds_of := cal_of (f_kinds_of T) (g_kinds_of T) (r_kinds_of (P := P) (w := w) (base := base) T c_Procedure_names c_Procedure_kind)
  have c_Form : Mak P w K mg base _ "Form" (He.ga K "Form") _ := ⟨⟨_, k_Form T, (r_Form_init (P := P) (w := w) (base := base) T), g_Form T⟩⟩
  have c_Form_begin : CalT P w K mg base _ "Form" (He.ga K "Form") "begin" _ := ⟨⟨_, _, (r_Form_begin (P := P) (w := w) (base := base) T c_Procedure_names c_Procedure_params c_Procedure_results c_kinds_of c_Form), t_Form_begin T, g_Form T, Fun.kp' (f_Form_begin T)⟩⟩
  have c_moved := cal_of (f_moved T) (g_moved T) (r_moved (P := P) (w := w) (base := base) T)
  have c_Form_dict_of := calF_of (f_Form_dict_of T) (m_Form_dict_of T) (Fp.c_Form T) (r_Form_dict_of (P := P) (w := w) (base := base) T)
  have c_Form_handed := calF_of (f_Form_handed T) (m_Form_handed T) (Fp.c_Form T) (r_Form_handed (P := P) (w := w) (base := base) T c_moved c_Form_dict_of)
  have c_Form_entered := calF_of (f_Form_entered T) (m_Form_entered T) (Fp.c_Form T) (r_Form_entered (P := P) (w := w) (base := base) T c_Procedure_names c_Procedure_params c_Procedure_results c_kinds_of c_Form c_Form_handed)
  have c_Program_first : CalP P w K mg base _ (He.ga K "Program") "first" _ := ⟨⟨_, _, (r_Program_first (P := P) (w := w) (base := base) T), p_Program_first T, Fp.c_Program T⟩⟩
  have c_is_marked := cal_of (f_is_marked T) (g_is_marked T) (r_is_marked (P := P) (w := w) (base := base) T)
  have c_joined := cal_of (f_joined T) (g_joined T) (r_joined (P := P) (w := w) (base := base) T)
  have c_led_row := cal_of (f_led_row T) (g_led_row T) (r_led_row (P := P) (w := w) (base := base) T c_moved c_joined)
  have c_Form_with_table := calF_of (f_Form_with_table T) (m_Form_with_table T) (Fp.c_Form T) (r_Form_with_table (P := P) (w := w) (base := base) T c_Form)
  have c_Form_behind := calF_of (f_Form_behind T) (m_Form_behind T) (Fp.c_Form T) (r_Form_behind (P := P) (w := w) (base := base) T c_led_row c_Form_dict_of c_Form_handed c_Form_with_table)
  have c_Form_after := calF_of (f_Form_after T) (m_Form_after T) (Fp.c_Form T) (r_Form_after (P := P) (w := w) (base := base) T c_moved c_joined c_Form_dict_of c_Form_with_table)
  have c_form_behind := (plays_all (P := P) (w := w) (base := base) T c_Procedure_way c_Program_getitem c_Form_behind c_Form_after c_Form_begin 4).1
  have c_form_at := cal_of (f_form_at T) (g_form_at T) (r_form_at (P := P) (w := w) (base := base) 4 T c_Procedure_way c_Program_getitem c_Form_begin c_Form_entered c_Program_first c_is_marked c_form_behind)
  have c_Form_names := calF_of (f_Form_names T) (m_Form_names T) (Fp.c_Form T) (r_Form_names (P := P) (w := w) (base := base) T)
  have c_Form_numbers := calF_of (f_Form_numbers T) (m_Form_numbers T) (Fp.c_Form T) (r_Form_numbers (P := P) (w := w) (base := base) T c_Form_names)
  have c_played := cal_of (f_played T) (g_played T) (r_played (P := P) (w := w) (base := base) T c_form_at c_Form_numbers)
  have c_Form_getitem := calF_of (f_Form_getitem T) (m_Form_getitem T) (Fp.c_Form T) (r_Form_getitem (P := P) (w := w) (base := base) T c_Form_dict_of)
  have c_Form_apart := calF_of (f_Form_apart T) (m_Form_apart T) (Fp.c_Form T) (r_Form_apart (P := P) (w := w) (base := base) T c_Form_getitem)
  have c_l_apart_right := cal_of (f_l_apart_right T) (g_l_apart_right T) (r_apart_right (P := P) (w := w) (base := base) T c_Form_apart)
  have c_Form_eq := calF_of (f_Form_eq T) (m_Form_eq T) (Fp.c_Form T) (r_Form_eq (P := P) (w := w) (base := base) T)
  have c_l_stepped := (stepped_all (P := P) (w := w) (base := base) T c_Procedure_way c_Program_getitem c_Form_behind c_Form_after c_Form_begin 4).1
  have c_l_steps_right := cal_of (f_l_steps_right T) (g_l_steps_right T) (r_steps (P := P) (w := w) (base := base) T c_Procedure_way c_Program_getitem c_Form_entered c_Form_eq c_form_at c_l_stepped)
  exact body_law T c_l_bag c_l_take c_l_model c_l_program c_l_drawn_moment c_l_drawn_start c_played c_form_at c_l_apart_right c_l_steps_right
theorem law_facts {P : Program} {w : World} {K : PySem.W.Frag} {h : Heap} {mg : Str → Option Value} {f : Addr} (X : K.In h) (G : h.Ns mainGlobals mg) (hfa : mg ("law" : Str) = some (.ref f)) (c : SaysM fns chk K) :
    ∃ fd : FuncData, (∀ (s : Shared) (v : Value), BindsTo s fd ⟨[v], []⟩ [("_law_script", v)]) ∧ ∀ base : Heap, K.In base → base.Ns mainGlobals mg → FnOk P w K mg base CX0 21 f fd ["_law_script"] (sp (S_law K)) := by
  have T : Tx K mg := Tx.of X G c
  obtain ⟨fd, F⟩ := T.says.def_ 85 (d := d_law) rfl
  have e := hfa.symm.trans (g_law T)
  cases e
  have b := FunD.bindsA (ps := ["_law_script"]) F fun _ _ _ _ _ _ us hl => match us, hl with | [_], _ => rfl
  have F2 : L2.Fun K "law" "law" s_law (a_law K) fd := He5.fun_of F
  refine ⟨fd, fun s v => b s [v] rfl, fun base _ _ => ?_⟩
  exact F2.ok sc_law (fun vs H Q E h => by obtain ⟨_, _, e, _⟩ := h; rw [e]; rfl) fun cdv A outer s H vs Q E hr h => law_all T cdv A outer s H vs Q E hr h
end Fp
open PySem PySem.W PySem.Calls PyProof.Rows
set_option maxHeartbeats 0
theorem PySem.Challenge.cw_farapart_k36_whole_apart_tells_differenc_holds : PySem.Challenge.rw_farapart_k36_whole_apart_tells_differenc.Holds := by
  w_on; o_law
  refine HandSHeadRun.head_any (r := OpenLaw.row PySem.Challenge.rw_farapart_k36_whole_apart_tells_differenc) (q := view (OpenLaw.row PySem.Challenge.rw_farapart_k36_whole_apart_tells_differenc).prog [78]) (H := FpT.hk) (ob := FpT.ob) (M := 20000) (loose := FpT.names) (d := HandSHeadRun.topDef (OpenLaw.row PySem.Challenge.rw_farapart_k36_whole_apart_tells_differenc).prog 78) (kwd := []) FpT.ob_eq
    (by kernel_rfl) (fun s => by kernel_rfl) FpT.run (by kernel_rfl) (by kernel_rfl) (by kernel_rfl) (by rfl) (by first | assumption | decide +kernel) (by decide +kernel) ⟨rfl, rfl, rfl, rfl, rfl, by decide +kernel⟩ ?hw ?hc
  case hw => w_witness2
  case hc =>
    refine L2.walk_ofE (l := PySem.Challenge.rw_farapart_k36_whole_apart_tells_differenc) (n := 63) (k := 21) (x := "_law_script") (CX := L2.CX0) rfl (by decide) (by kernel_rfl) ⟨rfl, by decide, by decide⟩ ?F (fun _ _ _ _ z => z)
    intro w mg fa h Y G hmg0
    obtain ⟨K, KX, c⟩ := Y
    have hmg : mg ("law" : PySem.Str) = some (.ref fa) := by
      have e : (HandSHeadRun.topDef (OpenLaw.row PySem.Challenge.rw_farapart_k36_whole_apart_tells_differenc).prog 78).name = ("law" : PySem.Str) := by kernel_rfl
      rw [← e]
      exact hmg0
    obtain ⟨fd, hb, hF⟩ := Fp.law_facts (P := (PySem.Challenge.rw_farapart_k36_whole_apart_tells_differenc).prog) (w := w) KX G hmg c
    exact ⟨K, fd, Fp.sp (Fp.S_law K), KX, hb, fun H a ns hl _ hS => ⟨a, ns, rfl, hS, fun _ => rfl⟩, hF⟩
