import PyProof.Rows.All
import Wide.All
import OpenK.AllK
import Wide.FinOn
import KE.KStateDown
import HandS.Head0
import HandS.Head1
import HandS.Head2
import HandS.HeadEnd
import HandS.HeadHook1
import HandS.ForMost
import HandS.More
import HandS.IsInst
import HandS.Strs
import HandS.Wide
import HandS.Zip
import HandS.TupAny
import HandS.RaiseMore
import HandS.MapJoin
import HandS.Flow
import HandS.FStr
import PySem.Challenge.RW_holders_k04_written
set_option linter.all false
set_option Elab.async false
set_option maxRecDepth 100000
set_option maxHeartbeats 4000000
namespace My
open PySem L2
set_option linter.all false
/-! ### isinstance among the program's own classes: the facts as one -/
def isiB (K : PySem.W.Frag) (cs : List Addr) (r : Addr) : Bool :=
  decide (PySem.W.specialIn K (.builtin "object.__class__") "__get__" = some (some (.builtin "getset_descriptor.__get__"))) && (decide (PySem.W.takesIn K (.builtin "object.__class__") = some true) &&
    cs.zipIdx.all fun c => decide (PySem.W.findIn K (.ref c.1) "__class__" = some (some (.builtin "object.__class__"))) && (decide (PySem.W.mroIn K c.1 (.type "object") = some true) &&
      (decide (PySem.W.kitOne K (.ref c.1) (.ref r) = some true) && cs.zipIdx.all fun d => decide (PySem.W.kitOne K (.ref c.1) (.ref d.1) = some (c.2 == d.2)))))
structure IsiAt (K : PySem.W.Frag) (cs : List Addr) (r : Addr) (i : Nat) (c : Addr) : Prop where
  hn : PySem.W.specialIn K (.builtin "object.__class__") "__get__" = some (some (.builtin "getset_descriptor.__get__"))
  htk : PySem.W.takesIn K (.builtin "object.__class__") = some true
  ha : PySem.W.findIn K (.ref c) "__class__" = some (some (.builtin "object.__class__"))
  hm : PySem.W.mroIn K c (.type "object") = some true
  hr : PySem.W.kitOne K (.ref c) (.ref r) = some true
  hk : ∀ (j : Nat) (d : Addr), cs[j]? = some d → PySem.W.kitOne K (.ref c) (.ref d) = some (i == j)
theorem isi_at {K : PySem.W.Frag} {cs : List Addr} {r : Addr} (h : isiB K cs r = true) (i : Nat) {c : Addr} (hc : cs[i]? = some c) : IsiAt K cs r i c := by
  unfold isiB at h
  simp only [Bool.and_eq_true, decide_eq_true_eq, List.all_eq_true] at h
  obtain ⟨h1, h2, h3⟩ := h
  have m : ∀ (j : Nat) (d : Addr), cs[j]? = some d → (d, j) ∈ cs.zipIdx := fun j d hd => by
    rw [List.mem_zipIdx_iff_getElem?]
    exact hd
  obtain ⟨h4, h5, h6, h7⟩ := h3 _ (m i c hc)
  exact ⟨h1, h2, h4, h5, h6, fun j d hd => h7 _ (m j d hd)⟩
def top (i : Nat) : Stmt := PySem.Challenge.pw_holders_k04_written.main.body.getD i (.Pass ⟨0, 0, 0, 0⟩)
abbrev s_shown : Stmt := top 2
abbrev s_Row_head : Stmt := inClass (top 4) 1
abbrev s_SetRow_init : Stmt := inClass (top 5) 0
abbrev s_SetRow_told : Stmt := inClass (top 5) 1
abbrev s_MakeRow_init : Stmt := inClass (top 6) 0
abbrev s_MakeRow_told : Stmt := inClass (top 6) 1
abbrev s_NoneRow_init : Stmt := inClass (top 7) 0
abbrev s_NoneRow_told : Stmt := inClass (top 7) 1
abbrev s_GiveRow_init : Stmt := inClass (top 8) 0
abbrev s_GiveRow_told : Stmt := inClass (top 8) 1
abbrev s_TakeRow_init : Stmt := inClass (top 9) 0
abbrev s_TakeRow_told : Stmt := inClass (top 9) 1
abbrev s_FillRow_init : Stmt := inClass (top 10) 0
abbrev s_FillRow_told : Stmt := inClass (top 10) 1
abbrev s_SwapRow_init : Stmt := inClass (top 11) 0
abbrev s_SwapRow_told : Stmt := inClass (top 11) 1
abbrev s_GetRow_init : Stmt := inClass (top 12) 0
abbrev s_GetRow_told : Stmt := inClass (top 12) 1
abbrev s_PutRow_init : Stmt := inClass (top 13) 0
abbrev s_PutRow_told : Stmt := inClass (top 13) 1
abbrev s_HasRow_init : Stmt := inClass (top 14) 0
abbrev s_HasRow_told : Stmt := inClass (top 14) 1
abbrev s_DropRow_init : Stmt := inClass (top 15) 0
abbrev s_DropRow_told : Stmt := inClass (top 15) 1
abbrev s_LendRow_init : Stmt := inClass (top 16) 0
abbrev s_LendRow_told : Stmt := inClass (top 16) 1
abbrev s_StepRow_init : Stmt := inClass (top 17) 0
abbrev s_StepRow_told : Stmt := inClass (top 17) 1
abbrev s_CallRow_init : Stmt := inClass (top 18) 0
abbrev s_CallRow_told : Stmt := inClass (top 18) 1
abbrev s_BackRow_init : Stmt := inClass (top 19) 0
abbrev s_BackRow_told : Stmt := inClass (top 19) 1
abbrev s_AskRow_init : Stmt := inClass (top 20) 0
abbrev s_AskRow_told : Stmt := inClass (top 20) 1
abbrev s_TellRow_init : Stmt := inClass (top 21) 0
abbrev s_TellRow_told : Stmt := inClass (top 21) 1
abbrev s_IfRow_init : Stmt := inClass (top 22) 0
abbrev s_IfRow_told : Stmt := inClass (top 22) 1
abbrev s_WhileRow_init : Stmt := inClass (top 23) 0
abbrev s_WhileRow_told : Stmt := inClass (top 23) 1
abbrev s_Record_init : Stmt := inClass (top 31) 0
abbrev s_Record_told : Stmt := inClass (top 31) 1
abbrev s_Helper_init : Stmt := inClass (top 32) 0
abbrev s_Helper_told : Stmt := inClass (top 32) 1
abbrev s_Program_init : Stmt := inClass (top 33) 0
abbrev s_Program_told : Stmt := inClass (top 33) 1
abbrev s_SetRow_head : Stmt := inClass (top 5) 2
abbrev s_MakeRow_head : Stmt := inClass (top 6) 2
abbrev s_HasRow_head : Stmt := inClass (top 14) 2
abbrev s_CallRow_head : Stmt := inClass (top 18) 2
abbrev s_IfRow_head : Stmt := inClass (top 22) 2
abbrev s_WhileRow_head : Stmt := inClass (top 23) 2
abbrev s_all_told : Stmt := top 3
abbrev s_rows_written : Stmt := top 25
abbrev s_record_written : Stmt := top 26
abbrev s_param_written : Stmt := top 27
abbrev s_helper_written : Stmt := top 28
abbrev s_written : Stmt := top 29
abbrev s_l_draw : Stmt := top 35
abbrev s_l_kept : Stmt := top 36
abbrev s_l_word : Stmt := top 37
abbrev s_l_name : Stmt := top 38
abbrev s_l_number : Stmt := top 39
abbrev s_l_atom : Stmt := top 40
abbrev s_l_path : Stmt := top 41
abbrev s_l_given : Stmt := top 42
abbrev s_l_plain : Stmt := top 43
abbrev s_l_rows : Stmt := top 44
abbrev s_l_kind : Stmt := top 45
abbrev s_l_param : Stmt := top 46
abbrev s_l_program : Stmt := top 47
abbrev s_l_box_row : Stmt := top 48
abbrev s_l_made : Stmt := top 49
abbrev s_l_made_program : Stmt := top 50
abbrev s_l_alike : Stmt := top 51
abbrev s_l_shown : Stmt := top 52
abbrev s_l_head : Stmt := top 53
abbrev s_l_lines : Stmt := top 54
abbrev s_l_text_lines : Stmt := top 55
abbrev s_law : Stmt := top 56
theorem sc_shown : FnScope ["thing"] ["thing"] (defScope s_shown) := ⟨rfl, rfl, rfl, by decide +kernel, rfl, by decide +kernel, by decide +kernel⟩
theorem sc_Row_head : FnScope ["self", "part"] ["self"] (defScope s_Row_head) := ⟨rfl, rfl, rfl, by decide +kernel, rfl, by decide +kernel, by decide +kernel⟩
theorem sc_SetRow_init : FnScope ["self", "name", "one", "sign", "other"] ["self", "name", "one", "sign", "other"] (defScope s_SetRow_init) := ⟨rfl, rfl, rfl, by decide +kernel, rfl, by decide +kernel, by decide +kernel⟩
theorem sc_SetRow_told : FnScope ["self"] ["self"] (defScope s_SetRow_told) := ⟨rfl, rfl, rfl, by decide +kernel, rfl, by decide +kernel, by decide +kernel⟩
theorem sc_MakeRow_init : FnScope ["self", "name", "record", "atoms"] ["self", "name", "record", "atoms"] (defScope s_MakeRow_init) := ⟨rfl, rfl, rfl, by decide +kernel, rfl, by decide +kernel, by decide +kernel⟩
theorem sc_MakeRow_told : FnScope ["self"] ["self"] (defScope s_MakeRow_told) := ⟨rfl, rfl, rfl, by decide +kernel, rfl, by decide +kernel, by decide +kernel⟩
theorem sc_NoneRow_init : FnScope ["self", "name", "record"] ["self", "name", "record"] (defScope s_NoneRow_init) := ⟨rfl, rfl, rfl, by decide +kernel, rfl, by decide +kernel, by decide +kernel⟩
theorem sc_NoneRow_told : FnScope ["self"] ["self"] (defScope s_NoneRow_told) := ⟨rfl, rfl, rfl, by decide +kernel, rfl, by decide +kernel, by decide +kernel⟩
theorem sc_GiveRow_init : FnScope ["self", "name", "other"] ["self", "name", "other"] (defScope s_GiveRow_init) := ⟨rfl, rfl, rfl, by decide +kernel, rfl, by decide +kernel, by decide +kernel⟩
theorem sc_GiveRow_told : FnScope ["self"] ["self"] (defScope s_GiveRow_told) := ⟨rfl, rfl, rfl, by decide +kernel, rfl, by decide +kernel, by decide +kernel⟩
theorem sc_TakeRow_init : FnScope ["self", "name", "path"] ["self", "name", "path"] (defScope s_TakeRow_init) := ⟨rfl, rfl, rfl, by decide +kernel, rfl, by decide +kernel, by decide +kernel⟩
theorem sc_TakeRow_told : FnScope ["self"] ["self"] (defScope s_TakeRow_told) := ⟨rfl, rfl, rfl, by decide +kernel, rfl, by decide +kernel, by decide +kernel⟩
theorem sc_FillRow_init : FnScope ["self", "path", "name"] ["self", "path", "name"] (defScope s_FillRow_init) := ⟨rfl, rfl, rfl, by decide +kernel, rfl, by decide +kernel, by decide +kernel⟩
theorem sc_FillRow_told : FnScope ["self"] ["self"] (defScope s_FillRow_told) := ⟨rfl, rfl, rfl, by decide +kernel, rfl, by decide +kernel, by decide +kernel⟩
theorem sc_SwapRow_init : FnScope ["self", "name", "path"] ["self", "name", "path"] (defScope s_SwapRow_init) := ⟨rfl, rfl, rfl, by decide +kernel, rfl, by decide +kernel, by decide +kernel⟩
theorem sc_SwapRow_told : FnScope ["self"] ["self"] (defScope s_SwapRow_told) := ⟨rfl, rfl, rfl, by decide +kernel, rfl, by decide +kernel, by decide +kernel⟩
theorem sc_GetRow_init : FnScope ["self", "name", "path"] ["self", "name", "path"] (defScope s_GetRow_init) := ⟨rfl, rfl, rfl, by decide +kernel, rfl, by decide +kernel, by decide +kernel⟩
theorem sc_GetRow_told : FnScope ["self"] ["self"] (defScope s_GetRow_told) := ⟨rfl, rfl, rfl, by decide +kernel, rfl, by decide +kernel, by decide +kernel⟩
theorem sc_PutRow_init : FnScope ["self", "path", "atom"] ["self", "path", "atom"] (defScope s_PutRow_init) := ⟨rfl, rfl, rfl, by decide +kernel, rfl, by decide +kernel, by decide +kernel⟩
theorem sc_PutRow_told : FnScope ["self"] ["self"] (defScope s_PutRow_told) := ⟨rfl, rfl, rfl, by decide +kernel, rfl, by decide +kernel, by decide +kernel⟩
theorem sc_HasRow_init : FnScope ["self", "name", "path"] ["self", "name", "path"] (defScope s_HasRow_init) := ⟨rfl, rfl, rfl, by decide +kernel, rfl, by decide +kernel, by decide +kernel⟩
theorem sc_HasRow_told : FnScope ["self"] ["self"] (defScope s_HasRow_told) := ⟨rfl, rfl, rfl, by decide +kernel, rfl, by decide +kernel, by decide +kernel⟩
theorem sc_DropRow_init : FnScope ["self", "name"] ["self", "name"] (defScope s_DropRow_init) := ⟨rfl, rfl, rfl, by decide +kernel, rfl, by decide +kernel, by decide +kernel⟩
theorem sc_DropRow_told : FnScope ["self"] ["self"] (defScope s_DropRow_told) := ⟨rfl, rfl, rfl, by decide +kernel, rfl, by decide +kernel, by decide +kernel⟩
theorem sc_LendRow_init : FnScope ["self", "mode", "name", "path"] ["self", "mode", "name", "path"] (defScope s_LendRow_init) := ⟨rfl, rfl, rfl, by decide +kernel, rfl, by decide +kernel, by decide +kernel⟩
theorem sc_LendRow_told : FnScope ["self"] ["self"] (defScope s_LendRow_told) := ⟨rfl, rfl, rfl, by decide +kernel, rfl, by decide +kernel, by decide +kernel⟩
theorem sc_StepRow_init : FnScope ["self", "name", "field"] ["self", "name", "field"] (defScope s_StepRow_init) := ⟨rfl, rfl, rfl, by decide +kernel, rfl, by decide +kernel, by decide +kernel⟩
theorem sc_StepRow_told : FnScope ["self"] ["self"] (defScope s_StepRow_told) := ⟨rfl, rfl, rfl, by decide +kernel, rfl, by decide +kernel, by decide +kernel⟩
theorem sc_CallRow_init : FnScope ["self", "name", "helper", "given"] ["self", "name", "helper", "given"] (defScope s_CallRow_init) := ⟨rfl, rfl, rfl, by decide +kernel, rfl, by decide +kernel, by decide +kernel⟩
theorem sc_CallRow_told : FnScope ["self"] ["self"] (defScope s_CallRow_told) := ⟨rfl, rfl, rfl, by decide +kernel, rfl, by decide +kernel, by decide +kernel⟩
theorem sc_BackRow_init : FnScope ["self", "atom"] ["self", "atom"] (defScope s_BackRow_init) := ⟨rfl, rfl, rfl, by decide +kernel, rfl, by decide +kernel, by decide +kernel⟩
theorem sc_BackRow_told : FnScope ["self"] ["self"] (defScope s_BackRow_told) := ⟨rfl, rfl, rfl, by decide +kernel, rfl, by decide +kernel, by decide +kernel⟩
theorem sc_AskRow_init : FnScope ["self", "name"] ["self", "name"] (defScope s_AskRow_init) := ⟨rfl, rfl, rfl, by decide +kernel, rfl, by decide +kernel, by decide +kernel⟩
theorem sc_AskRow_told : FnScope ["self"] ["self"] (defScope s_AskRow_told) := ⟨rfl, rfl, rfl, by decide +kernel, rfl, by decide +kernel, by decide +kernel⟩
theorem sc_TellRow_init : FnScope ["self", "atom"] ["self", "atom"] (defScope s_TellRow_init) := ⟨rfl, rfl, rfl, by decide +kernel, rfl, by decide +kernel, by decide +kernel⟩
theorem sc_TellRow_told : FnScope ["self"] ["self"] (defScope s_TellRow_told) := ⟨rfl, rfl, rfl, by decide +kernel, rfl, by decide +kernel, by decide +kernel⟩
theorem sc_IfRow_init : FnScope ["self", "atom", "rows", "others"] ["self", "atom", "rows", "others"] (defScope s_IfRow_init) := ⟨rfl, rfl, rfl, by decide +kernel, rfl, by decide +kernel, by decide +kernel⟩
theorem sc_IfRow_told : FnScope ["self"] ["self"] (defScope s_IfRow_told) := ⟨rfl, rfl, rfl, by decide +kernel, rfl, by decide +kernel, by decide +kernel⟩
theorem sc_WhileRow_init : FnScope ["self", "atom", "rows"] ["self", "atom", "rows"] (defScope s_WhileRow_init) := ⟨rfl, rfl, rfl, by decide +kernel, rfl, by decide +kernel, by decide +kernel⟩
theorem sc_WhileRow_told : FnScope ["self"] ["self"] (defScope s_WhileRow_told) := ⟨rfl, rfl, rfl, by decide +kernel, rfl, by decide +kernel, by decide +kernel⟩
theorem sc_Record_init : FnScope ["self", "name", "fields"] ["self", "name", "fields"] (defScope s_Record_init) := ⟨rfl, rfl, rfl, by decide +kernel, rfl, by decide +kernel, by decide +kernel⟩
theorem sc_Record_told : FnScope ["self"] ["self"] (defScope s_Record_told) := ⟨rfl, rfl, rfl, by decide +kernel, rfl, by decide +kernel, by decide +kernel⟩
theorem sc_Helper_init : FnScope ["self", "name", "params", "gives", "rows"] ["self", "name", "params", "gives", "rows"] (defScope s_Helper_init) := ⟨rfl, rfl, rfl, by decide +kernel, rfl, by decide +kernel, by decide +kernel⟩
theorem sc_Helper_told : FnScope ["self"] ["self"] (defScope s_Helper_told) := ⟨rfl, rfl, rfl, by decide +kernel, rfl, by decide +kernel, by decide +kernel⟩
theorem sc_Program_init : FnScope ["self", "records", "helpers"] ["self", "records", "helpers"] (defScope s_Program_init) := ⟨rfl, rfl, rfl, by decide +kernel, rfl, by decide +kernel, by decide +kernel⟩
theorem sc_Program_told : FnScope ["self"] ["self"] (defScope s_Program_told) := ⟨rfl, rfl, rfl, by decide +kernel, rfl, by decide +kernel, by decide +kernel⟩
theorem sc_SetRow_head : FnScope ["self"] ["self"] (defScope s_SetRow_head) := ⟨rfl, rfl, rfl, by decide +kernel, rfl, by decide +kernel, by decide +kernel⟩
theorem sc_MakeRow_head : FnScope ["self", "atom"] ["self"] (defScope s_MakeRow_head) := ⟨rfl, rfl, rfl, by decide +kernel, rfl, by decide +kernel, by decide +kernel⟩
theorem sc_HasRow_head : FnScope ["self"] ["self"] (defScope s_HasRow_head) := ⟨rfl, rfl, rfl, by decide +kernel, rfl, by decide +kernel, by decide +kernel⟩
theorem sc_CallRow_head : FnScope ["self", "words", "thing"] ["self"] (defScope s_CallRow_head) := ⟨rfl, rfl, rfl, by decide +kernel, rfl, by decide +kernel, by decide +kernel⟩
theorem sc_IfRow_head : FnScope ["self"] ["self"] (defScope s_IfRow_head) := ⟨rfl, rfl, rfl, by decide +kernel, rfl, by decide +kernel, by decide +kernel⟩
theorem sc_WhileRow_head : FnScope ["self"] ["self"] (defScope s_WhileRow_head) := ⟨rfl, rfl, rfl, by decide +kernel, rfl, by decide +kernel, by decide +kernel⟩
theorem sc_all_told : FnScope ["rows", "row"] ["rows"] (defScope s_all_told) := ⟨rfl, rfl, rfl, by decide +kernel, rfl, by decide +kernel, by decide +kernel⟩
theorem sc_rows_written : FnScope ["rows", "deep", "ahead", "found", "row"] ["rows", "deep"] (defScope s_rows_written) := ⟨rfl, rfl, rfl, by decide +kernel, rfl, by decide +kernel, by decide +kernel⟩
theorem sc_record_written : FnScope ["record", "name", "kind"] ["record"] (defScope s_record_written) := ⟨rfl, rfl, rfl, by decide +kernel, rfl, by decide +kernel, by decide +kernel⟩
theorem sc_param_written : FnScope ["how", "name", "kind"] ["how", "name", "kind"] (defScope s_param_written) := ⟨rfl, rfl, rfl, by decide +kernel, rfl, by decide +kernel, by decide +kernel⟩
theorem sc_helper_written : FnScope ["helper", "words", "how", "name", "kind"] ["helper"] (defScope s_helper_written) := ⟨rfl, rfl, rfl, by decide +kernel, rfl, by decide +kernel, by decide +kernel⟩
theorem sc_written : FnScope ["program", "found", "helper", "record", "row"] ["program"] (defScope s_written) := ⟨rfl, rfl, rfl, by decide +kernel, rfl, by decide +kernel, by decide +kernel⟩
theorem sc_l_draw : FnScope ["_law_script", "_law_tape", "_law_many", "_law_k", "_law_cell", "_law_one", "_law_two"] ["_law_script", "_law_tape", "_law_many"] (defScope s_l_draw) := ⟨rfl, rfl, rfl, by decide +kernel, rfl, by decide +kernel, by decide +kernel⟩
theorem sc_l_kept : FnScope ["_law_words"] [] (defScope s_l_kept) := ⟨rfl, rfl, rfl, by decide +kernel, rfl, by decide +kernel, by decide +kernel⟩
theorem sc_l_word : FnScope ["_law_script", "_law_number_here", "_law_tape", "_law_word_here", "_law_k"] ["_law_script", "_law_number_here"] (defScope s_l_word) := ⟨rfl, rfl, rfl, by decide +kernel, rfl, by decide +kernel, by decide +kernel⟩
theorem sc_l_name : FnScope ["_law_script", "_law_tape", "_law_way"] ["_law_script", "_law_tape"] (defScope s_l_name) := ⟨rfl, rfl, rfl, by decide +kernel, rfl, by decide +kernel, by decide +kernel⟩
theorem sc_l_number : FnScope ["_law_script", "_law_tape"] ["_law_script", "_law_tape"] (defScope s_l_number) := ⟨rfl, rfl, rfl, by decide +kernel, rfl, by decide +kernel, by decide +kernel⟩
theorem sc_l_atom : FnScope ["_law_script", "_law_tape"] ["_law_script", "_law_tape"] (defScope s_l_atom) := ⟨rfl, rfl, rfl, by decide +kernel, rfl, by decide +kernel, by decide +kernel⟩
theorem sc_l_path : FnScope ["_law_script", "_law_tape", "_law_k"] ["_law_script", "_law_tape"] (defScope s_l_path) := ⟨rfl, rfl, rfl, by decide +kernel, rfl, by decide +kernel, by decide +kernel⟩
theorem sc_l_given : FnScope ["_law_script", "_law_tape", "_law_path_here"] ["_law_script", "_law_tape"] (defScope s_l_given) := ⟨rfl, rfl, rfl, by decide +kernel, rfl, by decide +kernel, by decide +kernel⟩
theorem sc_l_plain : FnScope ["_law_script", "_law_tape", "_law_way", "_law_name_here", "_law_sign", "_law_atoms", "_law_given_here", "_law_k"] ["_law_script", "_law_tape"] (defScope s_l_plain) := ⟨rfl, rfl, rfl, by decide +kernel, rfl, by decide +kernel, by decide +kernel⟩
theorem sc_l_rows : FnScope ["_law_script", "_law_tape", "_law_deep", "_law_room", "_law_found", "_law_k", "_law_way", "_law_atom_here", "_law_rows_here"] ["_law_script", "_law_tape", "_law_deep", "_law_room"] (defScope s_l_rows) := ⟨rfl, rfl, rfl, by decide +kernel, rfl, by decide +kernel, by decide +kernel⟩
theorem sc_l_kind : FnScope ["_law_script", "_law_tape"] ["_law_script", "_law_tape"] (defScope s_l_kind) := ⟨rfl, rfl, rfl, by decide +kernel, rfl, by decide +kernel, by decide +kernel⟩
theorem sc_l_param : FnScope ["_law_script", "_law_tape", "_law_how"] ["_law_script", "_law_tape"] (defScope s_l_param) := ⟨rfl, rfl, rfl, by decide +kernel, rfl, by decide +kernel, by decide +kernel⟩
theorem sc_l_program : FnScope ["_law_script", "_law_tape", "_law_records", "_law_k", "_law_fields", "_law_helpers", "_law_params", "_law_gives", "_law_name_here"] ["_law_script", "_law_tape"] (defScope s_l_program) := ⟨rfl, rfl, rfl, by decide +kernel, rfl, by decide +kernel, by decide +kernel⟩
theorem sc_l_box_row : FnScope ["_law_told", "_law_word_here"] ["_law_told"] (defScope s_l_box_row) := ⟨rfl, rfl, rfl, by decide +kernel, rfl, by decide +kernel, by decide +kernel⟩
theorem sc_l_made : FnScope ["_law_told", "_law_word_here", "_law_one"] ["_law_told"] (defScope s_l_made) := ⟨rfl, rfl, rfl, by decide +kernel, rfl, by decide +kernel, by decide +kernel⟩
theorem sc_l_made_program : FnScope ["_law_told", "_law_records", "_law_helpers", "_law_one", "_law_record", "_law_row"] ["_law_told"] (defScope s_l_made_program) := ⟨rfl, rfl, rfl, by decide +kernel, rfl, by decide +kernel, by decide +kernel⟩
theorem sc_l_alike : FnScope ["_law_found", "_law_due", "_law_one", "_law_other"] ["_law_found", "_law_due"] (defScope s_l_alike) := ⟨rfl, rfl, rfl, by decide +kernel, rfl, by decide +kernel, by decide +kernel⟩
theorem sc_l_shown : FnScope ["_law_thing"] ["_law_thing"] (defScope s_l_shown) := ⟨rfl, rfl, rfl, by decide +kernel, rfl, by decide +kernel, by decide +kernel⟩
theorem sc_l_head : FnScope ["_law_told", "_law_word_here", "_law_ends", "_law_part", "_law_atom_here", "_law_thing"] ["_law_told"] (defScope s_l_head) := ⟨rfl, rfl, rfl, by decide +kernel, rfl, by decide +kernel, by decide +kernel⟩
theorem sc_l_lines : FnScope ["_law_rows_here", "_law_deep", "_law_found", "_law_told"] ["_law_rows_here", "_law_deep"] (defScope s_l_lines) := ⟨rfl, rfl, rfl, by decide +kernel, rfl, by decide +kernel, by decide +kernel⟩
theorem sc_l_text_lines : FnScope ["_law_told", "_law_found", "_law_record", "_law_kind_here", "_law_helper", "_law_words", "_law_how", "_law_name_here", "_law_field"] ["_law_told"] (defScope s_l_text_lines) := ⟨rfl, rfl, rfl, by decide +kernel, rfl, by decide +kernel, by decide +kernel⟩
theorem sc_law : FnScope ["_law_script", "_law_tape", "_law_told", "_law_beside", "_law_program_here", "_law_due", "_law_other", "_law_line"] ["_law_script"] (defScope s_law) := ⟨rfl, rfl, rfl, by decide +kernel, rfl, by decide +kernel, by decide +kernel⟩
structure Tx (K : PySem.W.Frag) (mg : Str → Option Value) where
  n_isinstance : mg "isinstance" = none
  n_tuple : mg "tuple" = none
  n_str : mg "str" = none
  n_len : mg "len" = none
  n_range : mg "range" = none
  n_all : mg "all" = none
  n_zip : mg "zip" = none
  n_int : mg "int" = none
  n_bool : mg "bool" = none
  a_SetRow : Addr
  c_SetRow : mg "SetRow" = some (.ref a_SetRow)
  cl_SetRow : Cls K a_SetRow
  na_SetRow_name : NoAttr K a_SetRow "name"
  na_SetRow_one : NoAttr K a_SetRow "one"
  na_SetRow_sign : NoAttr K a_SetRow "sign"
  na_SetRow_other : NoAttr K a_SetRow "other"
  a_MakeRow : Addr
  c_MakeRow : mg "MakeRow" = some (.ref a_MakeRow)
  cl_MakeRow : Cls K a_MakeRow
  na_MakeRow_name : NoAttr K a_MakeRow "name"
  na_MakeRow_record : NoAttr K a_MakeRow "record"
  na_MakeRow_atoms : NoAttr K a_MakeRow "atoms"
  a_NoneRow : Addr
  c_NoneRow : mg "NoneRow" = some (.ref a_NoneRow)
  cl_NoneRow : Cls K a_NoneRow
  na_NoneRow_name : NoAttr K a_NoneRow "name"
  na_NoneRow_record : NoAttr K a_NoneRow "record"
  a_GiveRow : Addr
  c_GiveRow : mg "GiveRow" = some (.ref a_GiveRow)
  cl_GiveRow : Cls K a_GiveRow
  na_GiveRow_name : NoAttr K a_GiveRow "name"
  na_GiveRow_other : NoAttr K a_GiveRow "other"
  a_TakeRow : Addr
  c_TakeRow : mg "TakeRow" = some (.ref a_TakeRow)
  cl_TakeRow : Cls K a_TakeRow
  na_TakeRow_name : NoAttr K a_TakeRow "name"
  na_TakeRow_path : NoAttr K a_TakeRow "path"
  a_FillRow : Addr
  c_FillRow : mg "FillRow" = some (.ref a_FillRow)
  cl_FillRow : Cls K a_FillRow
  na_FillRow_path : NoAttr K a_FillRow "path"
  na_FillRow_name : NoAttr K a_FillRow "name"
  a_SwapRow : Addr
  c_SwapRow : mg "SwapRow" = some (.ref a_SwapRow)
  cl_SwapRow : Cls K a_SwapRow
  na_SwapRow_name : NoAttr K a_SwapRow "name"
  na_SwapRow_path : NoAttr K a_SwapRow "path"
  a_GetRow : Addr
  c_GetRow : mg "GetRow" = some (.ref a_GetRow)
  cl_GetRow : Cls K a_GetRow
  na_GetRow_name : NoAttr K a_GetRow "name"
  na_GetRow_path : NoAttr K a_GetRow "path"
  a_PutRow : Addr
  c_PutRow : mg "PutRow" = some (.ref a_PutRow)
  cl_PutRow : Cls K a_PutRow
  na_PutRow_path : NoAttr K a_PutRow "path"
  na_PutRow_atom : NoAttr K a_PutRow "atom"
  a_HasRow : Addr
  c_HasRow : mg "HasRow" = some (.ref a_HasRow)
  cl_HasRow : Cls K a_HasRow
  na_HasRow_name : NoAttr K a_HasRow "name"
  na_HasRow_path : NoAttr K a_HasRow "path"
  a_DropRow : Addr
  c_DropRow : mg "DropRow" = some (.ref a_DropRow)
  cl_DropRow : Cls K a_DropRow
  na_DropRow_name : NoAttr K a_DropRow "name"
  a_LendRow : Addr
  c_LendRow : mg "LendRow" = some (.ref a_LendRow)
  cl_LendRow : Cls K a_LendRow
  na_LendRow_mode : NoAttr K a_LendRow "mode"
  na_LendRow_name : NoAttr K a_LendRow "name"
  na_LendRow_path : NoAttr K a_LendRow "path"
  a_StepRow : Addr
  c_StepRow : mg "StepRow" = some (.ref a_StepRow)
  cl_StepRow : Cls K a_StepRow
  na_StepRow_name : NoAttr K a_StepRow "name"
  na_StepRow_field : NoAttr K a_StepRow "field"
  a_CallRow : Addr
  c_CallRow : mg "CallRow" = some (.ref a_CallRow)
  cl_CallRow : Cls K a_CallRow
  na_CallRow_name : NoAttr K a_CallRow "name"
  na_CallRow_helper : NoAttr K a_CallRow "helper"
  na_CallRow_given : NoAttr K a_CallRow "given"
  a_BackRow : Addr
  c_BackRow : mg "BackRow" = some (.ref a_BackRow)
  cl_BackRow : Cls K a_BackRow
  na_BackRow_atom : NoAttr K a_BackRow "atom"
  a_AskRow : Addr
  c_AskRow : mg "AskRow" = some (.ref a_AskRow)
  cl_AskRow : Cls K a_AskRow
  na_AskRow_name : NoAttr K a_AskRow "name"
  a_TellRow : Addr
  c_TellRow : mg "TellRow" = some (.ref a_TellRow)
  cl_TellRow : Cls K a_TellRow
  na_TellRow_atom : NoAttr K a_TellRow "atom"
  a_IfRow : Addr
  c_IfRow : mg "IfRow" = some (.ref a_IfRow)
  cl_IfRow : Cls K a_IfRow
  na_IfRow_atom : NoAttr K a_IfRow "atom"
  na_IfRow_rows : NoAttr K a_IfRow "rows"
  na_IfRow_others : NoAttr K a_IfRow "others"
  a_WhileRow : Addr
  c_WhileRow : mg "WhileRow" = some (.ref a_WhileRow)
  cl_WhileRow : Cls K a_WhileRow
  na_WhileRow_atom : NoAttr K a_WhileRow "atom"
  na_WhileRow_rows : NoAttr K a_WhileRow "rows"
  a_Record : Addr
  c_Record : mg "Record" = some (.ref a_Record)
  cl_Record : Cls K a_Record
  na_Record_name : NoAttr K a_Record "name"
  na_Record_fields : NoAttr K a_Record "fields"
  a_Helper : Addr
  c_Helper : mg "Helper" = some (.ref a_Helper)
  cl_Helper : Cls K a_Helper
  na_Helper_name : NoAttr K a_Helper "name"
  na_Helper_params : NoAttr K a_Helper "params"
  na_Helper_gives : NoAttr K a_Helper "gives"
  na_Helper_rows : NoAttr K a_Helper "rows"
  a_Program : Addr
  c_Program : mg "Program" = some (.ref a_Program)
  cl_Program : Cls K a_Program
  na_Program_records : NoAttr K a_Program "records"
  na_Program_helpers : NoAttr K a_Program "helpers"
  a_Row : Addr
  c_Row : mg "Row" = some (.ref a_Row)
  cl_Row : Cls K a_Row
  f_shown : Addr
  d_shown : FuncData
  F_shown : Fun K "shown" "shown" s_shown f_shown d_shown
  B_shown : Binds K d_shown ["thing"] []
  m_shown : mg "shown" = some (.ref f_shown)
  f_Row_head : Addr
  d_Row_head : FuncData
  F_Row_head : Fun K "head" "Row.head" s_Row_head f_Row_head d_Row_head
  B_Row_head : Binds K d_Row_head ["self"] []
  f_SetRow_init : Addr
  d_SetRow_init : FuncData
  F_SetRow_init : Fun K "__init__" "SetRow.__init__" s_SetRow_init f_SetRow_init d_SetRow_init
  B_SetRow_init : Binds K d_SetRow_init ["self", "name", "one", "sign", "other"] []
  Mk_SetRow : Mk K a_SetRow f_SetRow_init
  f_SetRow_told : Addr
  d_SetRow_told : FuncData
  F_SetRow_told : Fun K "told" "SetRow.told" s_SetRow_told f_SetRow_told d_SetRow_told
  B_SetRow_told : Binds K d_SetRow_told ["self"] []
  f_MakeRow_init : Addr
  d_MakeRow_init : FuncData
  F_MakeRow_init : Fun K "__init__" "MakeRow.__init__" s_MakeRow_init f_MakeRow_init d_MakeRow_init
  B_MakeRow_init : Binds K d_MakeRow_init ["self", "name", "record", "atoms"] []
  Mk_MakeRow : Mk K a_MakeRow f_MakeRow_init
  f_MakeRow_told : Addr
  d_MakeRow_told : FuncData
  F_MakeRow_told : Fun K "told" "MakeRow.told" s_MakeRow_told f_MakeRow_told d_MakeRow_told
  B_MakeRow_told : Binds K d_MakeRow_told ["self"] []
  f_NoneRow_init : Addr
  d_NoneRow_init : FuncData
  F_NoneRow_init : Fun K "__init__" "NoneRow.__init__" s_NoneRow_init f_NoneRow_init d_NoneRow_init
  B_NoneRow_init : Binds K d_NoneRow_init ["self", "name", "record"] []
  Mk_NoneRow : Mk K a_NoneRow f_NoneRow_init
  f_NoneRow_told : Addr
  d_NoneRow_told : FuncData
  F_NoneRow_told : Fun K "told" "NoneRow.told" s_NoneRow_told f_NoneRow_told d_NoneRow_told
  B_NoneRow_told : Binds K d_NoneRow_told ["self"] []
  f_GiveRow_init : Addr
  d_GiveRow_init : FuncData
  F_GiveRow_init : Fun K "__init__" "GiveRow.__init__" s_GiveRow_init f_GiveRow_init d_GiveRow_init
  B_GiveRow_init : Binds K d_GiveRow_init ["self", "name", "other"] []
  Mk_GiveRow : Mk K a_GiveRow f_GiveRow_init
  f_GiveRow_told : Addr
  d_GiveRow_told : FuncData
  F_GiveRow_told : Fun K "told" "GiveRow.told" s_GiveRow_told f_GiveRow_told d_GiveRow_told
  B_GiveRow_told : Binds K d_GiveRow_told ["self"] []
  f_TakeRow_init : Addr
  d_TakeRow_init : FuncData
  F_TakeRow_init : Fun K "__init__" "TakeRow.__init__" s_TakeRow_init f_TakeRow_init d_TakeRow_init
  B_TakeRow_init : Binds K d_TakeRow_init ["self", "name", "path"] []
  Mk_TakeRow : Mk K a_TakeRow f_TakeRow_init
  f_TakeRow_told : Addr
  d_TakeRow_told : FuncData
  F_TakeRow_told : Fun K "told" "TakeRow.told" s_TakeRow_told f_TakeRow_told d_TakeRow_told
  B_TakeRow_told : Binds K d_TakeRow_told ["self"] []
  f_FillRow_init : Addr
  d_FillRow_init : FuncData
  F_FillRow_init : Fun K "__init__" "FillRow.__init__" s_FillRow_init f_FillRow_init d_FillRow_init
  B_FillRow_init : Binds K d_FillRow_init ["self", "path", "name"] []
  Mk_FillRow : Mk K a_FillRow f_FillRow_init
  f_FillRow_told : Addr
  d_FillRow_told : FuncData
  F_FillRow_told : Fun K "told" "FillRow.told" s_FillRow_told f_FillRow_told d_FillRow_told
  B_FillRow_told : Binds K d_FillRow_told ["self"] []
  f_SwapRow_init : Addr
  d_SwapRow_init : FuncData
  F_SwapRow_init : Fun K "__init__" "SwapRow.__init__" s_SwapRow_init f_SwapRow_init d_SwapRow_init
  B_SwapRow_init : Binds K d_SwapRow_init ["self", "name", "path"] []
  Mk_SwapRow : Mk K a_SwapRow f_SwapRow_init
  f_SwapRow_told : Addr
  d_SwapRow_told : FuncData
  F_SwapRow_told : Fun K "told" "SwapRow.told" s_SwapRow_told f_SwapRow_told d_SwapRow_told
  B_SwapRow_told : Binds K d_SwapRow_told ["self"] []
  f_GetRow_init : Addr
  d_GetRow_init : FuncData
  F_GetRow_init : Fun K "__init__" "GetRow.__init__" s_GetRow_init f_GetRow_init d_GetRow_init
  B_GetRow_init : Binds K d_GetRow_init ["self", "name", "path"] []
  Mk_GetRow : Mk K a_GetRow f_GetRow_init
  f_GetRow_told : Addr
  d_GetRow_told : FuncData
  F_GetRow_told : Fun K "told" "GetRow.told" s_GetRow_told f_GetRow_told d_GetRow_told
  B_GetRow_told : Binds K d_GetRow_told ["self"] []
  f_PutRow_init : Addr
  d_PutRow_init : FuncData
  F_PutRow_init : Fun K "__init__" "PutRow.__init__" s_PutRow_init f_PutRow_init d_PutRow_init
  B_PutRow_init : Binds K d_PutRow_init ["self", "path", "atom"] []
  Mk_PutRow : Mk K a_PutRow f_PutRow_init
  f_PutRow_told : Addr
  d_PutRow_told : FuncData
  F_PutRow_told : Fun K "told" "PutRow.told" s_PutRow_told f_PutRow_told d_PutRow_told
  B_PutRow_told : Binds K d_PutRow_told ["self"] []
  f_HasRow_init : Addr
  d_HasRow_init : FuncData
  F_HasRow_init : Fun K "__init__" "HasRow.__init__" s_HasRow_init f_HasRow_init d_HasRow_init
  B_HasRow_init : Binds K d_HasRow_init ["self", "name", "path"] []
  Mk_HasRow : Mk K a_HasRow f_HasRow_init
  f_HasRow_told : Addr
  d_HasRow_told : FuncData
  F_HasRow_told : Fun K "told" "HasRow.told" s_HasRow_told f_HasRow_told d_HasRow_told
  B_HasRow_told : Binds K d_HasRow_told ["self"] []
  f_DropRow_init : Addr
  d_DropRow_init : FuncData
  F_DropRow_init : Fun K "__init__" "DropRow.__init__" s_DropRow_init f_DropRow_init d_DropRow_init
  B_DropRow_init : Binds K d_DropRow_init ["self", "name"] []
  Mk_DropRow : Mk K a_DropRow f_DropRow_init
  f_DropRow_told : Addr
  d_DropRow_told : FuncData
  F_DropRow_told : Fun K "told" "DropRow.told" s_DropRow_told f_DropRow_told d_DropRow_told
  B_DropRow_told : Binds K d_DropRow_told ["self"] []
  f_LendRow_init : Addr
  d_LendRow_init : FuncData
  F_LendRow_init : Fun K "__init__" "LendRow.__init__" s_LendRow_init f_LendRow_init d_LendRow_init
  B_LendRow_init : Binds K d_LendRow_init ["self", "mode", "name", "path"] []
  Mk_LendRow : Mk K a_LendRow f_LendRow_init
  f_LendRow_told : Addr
  d_LendRow_told : FuncData
  F_LendRow_told : Fun K "told" "LendRow.told" s_LendRow_told f_LendRow_told d_LendRow_told
  B_LendRow_told : Binds K d_LendRow_told ["self"] []
  f_StepRow_init : Addr
  d_StepRow_init : FuncData
  F_StepRow_init : Fun K "__init__" "StepRow.__init__" s_StepRow_init f_StepRow_init d_StepRow_init
  B_StepRow_init : Binds K d_StepRow_init ["self", "name", "field"] []
  Mk_StepRow : Mk K a_StepRow f_StepRow_init
  f_StepRow_told : Addr
  d_StepRow_told : FuncData
  F_StepRow_told : Fun K "told" "StepRow.told" s_StepRow_told f_StepRow_told d_StepRow_told
  B_StepRow_told : Binds K d_StepRow_told ["self"] []
  f_CallRow_init : Addr
  d_CallRow_init : FuncData
  F_CallRow_init : Fun K "__init__" "CallRow.__init__" s_CallRow_init f_CallRow_init d_CallRow_init
  B_CallRow_init : Binds K d_CallRow_init ["self", "name", "helper", "given"] []
  Mk_CallRow : Mk K a_CallRow f_CallRow_init
  f_CallRow_told : Addr
  d_CallRow_told : FuncData
  F_CallRow_told : Fun K "told" "CallRow.told" s_CallRow_told f_CallRow_told d_CallRow_told
  B_CallRow_told : Binds K d_CallRow_told ["self"] []
  f_BackRow_init : Addr
  d_BackRow_init : FuncData
  F_BackRow_init : Fun K "__init__" "BackRow.__init__" s_BackRow_init f_BackRow_init d_BackRow_init
  B_BackRow_init : Binds K d_BackRow_init ["self", "atom"] []
  Mk_BackRow : Mk K a_BackRow f_BackRow_init
  f_BackRow_told : Addr
  d_BackRow_told : FuncData
  F_BackRow_told : Fun K "told" "BackRow.told" s_BackRow_told f_BackRow_told d_BackRow_told
  B_BackRow_told : Binds K d_BackRow_told ["self"] []
  f_AskRow_init : Addr
  d_AskRow_init : FuncData
  F_AskRow_init : Fun K "__init__" "AskRow.__init__" s_AskRow_init f_AskRow_init d_AskRow_init
  B_AskRow_init : Binds K d_AskRow_init ["self", "name"] []
  Mk_AskRow : Mk K a_AskRow f_AskRow_init
  f_AskRow_told : Addr
  d_AskRow_told : FuncData
  F_AskRow_told : Fun K "told" "AskRow.told" s_AskRow_told f_AskRow_told d_AskRow_told
  B_AskRow_told : Binds K d_AskRow_told ["self"] []
  f_TellRow_init : Addr
  d_TellRow_init : FuncData
  F_TellRow_init : Fun K "__init__" "TellRow.__init__" s_TellRow_init f_TellRow_init d_TellRow_init
  B_TellRow_init : Binds K d_TellRow_init ["self", "atom"] []
  Mk_TellRow : Mk K a_TellRow f_TellRow_init
  f_TellRow_told : Addr
  d_TellRow_told : FuncData
  F_TellRow_told : Fun K "told" "TellRow.told" s_TellRow_told f_TellRow_told d_TellRow_told
  B_TellRow_told : Binds K d_TellRow_told ["self"] []
  f_IfRow_init : Addr
  d_IfRow_init : FuncData
  F_IfRow_init : Fun K "__init__" "IfRow.__init__" s_IfRow_init f_IfRow_init d_IfRow_init
  B_IfRow_init : Binds K d_IfRow_init ["self", "atom", "rows", "others"] []
  Mk_IfRow : Mk K a_IfRow f_IfRow_init
  f_IfRow_told : Addr
  d_IfRow_told : FuncData
  F_IfRow_told : Fun K "told" "IfRow.told" s_IfRow_told f_IfRow_told d_IfRow_told
  B_IfRow_told : Binds K d_IfRow_told ["self"] []
  f_WhileRow_init : Addr
  d_WhileRow_init : FuncData
  F_WhileRow_init : Fun K "__init__" "WhileRow.__init__" s_WhileRow_init f_WhileRow_init d_WhileRow_init
  B_WhileRow_init : Binds K d_WhileRow_init ["self", "atom", "rows"] []
  Mk_WhileRow : Mk K a_WhileRow f_WhileRow_init
  f_WhileRow_told : Addr
  d_WhileRow_told : FuncData
  F_WhileRow_told : Fun K "told" "WhileRow.told" s_WhileRow_told f_WhileRow_told d_WhileRow_told
  B_WhileRow_told : Binds K d_WhileRow_told ["self"] []
  f_Record_init : Addr
  d_Record_init : FuncData
  F_Record_init : Fun K "__init__" "Record.__init__" s_Record_init f_Record_init d_Record_init
  B_Record_init : Binds K d_Record_init ["self", "name", "fields"] []
  Mk_Record : Mk K a_Record f_Record_init
  f_Record_told : Addr
  d_Record_told : FuncData
  F_Record_told : Fun K "told" "Record.told" s_Record_told f_Record_told d_Record_told
  B_Record_told : Binds K d_Record_told ["self"] []
  f_Helper_init : Addr
  d_Helper_init : FuncData
  F_Helper_init : Fun K "__init__" "Helper.__init__" s_Helper_init f_Helper_init d_Helper_init
  B_Helper_init : Binds K d_Helper_init ["self", "name", "params", "gives", "rows"] []
  Mk_Helper : Mk K a_Helper f_Helper_init
  f_Helper_told : Addr
  d_Helper_told : FuncData
  F_Helper_told : Fun K "told" "Helper.told" s_Helper_told f_Helper_told d_Helper_told
  B_Helper_told : Binds K d_Helper_told ["self"] []
  f_Program_init : Addr
  d_Program_init : FuncData
  F_Program_init : Fun K "__init__" "Program.__init__" s_Program_init f_Program_init d_Program_init
  B_Program_init : Binds K d_Program_init ["self", "records", "helpers"] []
  Mk_Program : Mk K a_Program f_Program_init
  f_Program_told : Addr
  d_Program_told : FuncData
  F_Program_told : Fun K "told" "Program.told" s_Program_told f_Program_told d_Program_told
  B_Program_told : Binds K d_Program_told ["self"] []
  f_SetRow_head : Addr
  d_SetRow_head : FuncData
  F_SetRow_head : Fun K "head" "SetRow.head" s_SetRow_head f_SetRow_head d_SetRow_head
  B_SetRow_head : Binds K d_SetRow_head ["self"] []
  f_MakeRow_head : Addr
  d_MakeRow_head : FuncData
  F_MakeRow_head : Fun K "head" "MakeRow.head" s_MakeRow_head f_MakeRow_head d_MakeRow_head
  B_MakeRow_head : Binds K d_MakeRow_head ["self"] []
  f_HasRow_head : Addr
  d_HasRow_head : FuncData
  F_HasRow_head : Fun K "head" "HasRow.head" s_HasRow_head f_HasRow_head d_HasRow_head
  B_HasRow_head : Binds K d_HasRow_head ["self"] []
  f_CallRow_head : Addr
  d_CallRow_head : FuncData
  F_CallRow_head : Fun K "head" "CallRow.head" s_CallRow_head f_CallRow_head d_CallRow_head
  B_CallRow_head : Binds K d_CallRow_head ["self"] []
  f_IfRow_head : Addr
  d_IfRow_head : FuncData
  F_IfRow_head : Fun K "head" "IfRow.head" s_IfRow_head f_IfRow_head d_IfRow_head
  B_IfRow_head : Binds K d_IfRow_head ["self"] []
  f_WhileRow_head : Addr
  d_WhileRow_head : FuncData
  F_WhileRow_head : Fun K "head" "WhileRow.head" s_WhileRow_head f_WhileRow_head d_WhileRow_head
  B_WhileRow_head : Binds K d_WhileRow_head ["self"] []
  f_all_told : Addr
  d_all_told : FuncData
  F_all_told : Fun K "all_told" "all_told" s_all_told f_all_told d_all_told
  B_all_told : Binds K d_all_told ["rows"] []
  m_all_told : mg "all_told" = some (.ref f_all_told)
  f_rows_written : Addr
  d_rows_written : FuncData
  F_rows_written : Fun K "rows_written" "rows_written" s_rows_written f_rows_written d_rows_written
  B_rows_written : Binds K d_rows_written ["rows", "deep"] []
  m_rows_written : mg "rows_written" = some (.ref f_rows_written)
  f_record_written : Addr
  d_record_written : FuncData
  F_record_written : Fun K "record_written" "record_written" s_record_written f_record_written d_record_written
  B_record_written : Binds K d_record_written ["record"] []
  m_record_written : mg "record_written" = some (.ref f_record_written)
  f_param_written : Addr
  d_param_written : FuncData
  F_param_written : Fun K "param_written" "param_written" s_param_written f_param_written d_param_written
  B_param_written : Binds K d_param_written ["how", "name", "kind"] []
  m_param_written : mg "param_written" = some (.ref f_param_written)
  f_helper_written : Addr
  d_helper_written : FuncData
  F_helper_written : Fun K "helper_written" "helper_written" s_helper_written f_helper_written d_helper_written
  B_helper_written : Binds K d_helper_written ["helper"] []
  m_helper_written : mg "helper_written" = some (.ref f_helper_written)
  f_written : Addr
  d_written : FuncData
  F_written : Fun K "written" "written" s_written f_written d_written
  B_written : Binds K d_written ["program"] []
  m_written : mg "written" = some (.ref f_written)
  f_l_draw : Addr
  d_l_draw : FuncData
  F_l_draw : Fun K "_law_draw" "_law_draw" s_l_draw f_l_draw d_l_draw
  B_l_draw : Binds K d_l_draw ["_law_script", "_law_tape", "_law_many"] []
  m_l_draw : mg "_law_draw" = some (.ref f_l_draw)
  f_l_kept : Addr
  d_l_kept : FuncData
  F_l_kept : Fun K "_law_kept" "_law_kept" s_l_kept f_l_kept d_l_kept
  B_l_kept : Binds K d_l_kept [] []
  m_l_kept : mg "_law_kept" = some (.ref f_l_kept)
  f_l_word : Addr
  d_l_word : FuncData
  F_l_word : Fun K "_law_word" "_law_word" s_l_word f_l_word d_l_word
  B_l_word : Binds K d_l_word ["_law_script", "_law_number_here"] []
  m_l_word : mg "_law_word" = some (.ref f_l_word)
  f_l_name : Addr
  d_l_name : FuncData
  F_l_name : Fun K "_law_name" "_law_name" s_l_name f_l_name d_l_name
  B_l_name : Binds K d_l_name ["_law_script", "_law_tape"] []
  m_l_name : mg "_law_name" = some (.ref f_l_name)
  f_l_number : Addr
  d_l_number : FuncData
  F_l_number : Fun K "_law_number" "_law_number" s_l_number f_l_number d_l_number
  B_l_number : Binds K d_l_number ["_law_script", "_law_tape"] []
  m_l_number : mg "_law_number" = some (.ref f_l_number)
  f_l_atom : Addr
  d_l_atom : FuncData
  F_l_atom : Fun K "_law_atom" "_law_atom" s_l_atom f_l_atom d_l_atom
  B_l_atom : Binds K d_l_atom ["_law_script", "_law_tape"] []
  m_l_atom : mg "_law_atom" = some (.ref f_l_atom)
  f_l_path : Addr
  d_l_path : FuncData
  F_l_path : Fun K "_law_path" "_law_path" s_l_path f_l_path d_l_path
  B_l_path : Binds K d_l_path ["_law_script", "_law_tape"] []
  m_l_path : mg "_law_path" = some (.ref f_l_path)
  f_l_given : Addr
  d_l_given : FuncData
  F_l_given : Fun K "_law_given" "_law_given" s_l_given f_l_given d_l_given
  B_l_given : Binds K d_l_given ["_law_script", "_law_tape"] []
  m_l_given : mg "_law_given" = some (.ref f_l_given)
  f_l_plain : Addr
  d_l_plain : FuncData
  F_l_plain : Fun K "_law_plain" "_law_plain" s_l_plain f_l_plain d_l_plain
  B_l_plain : Binds K d_l_plain ["_law_script", "_law_tape"] []
  m_l_plain : mg "_law_plain" = some (.ref f_l_plain)
  f_l_rows : Addr
  d_l_rows : FuncData
  F_l_rows : Fun K "_law_rows" "_law_rows" s_l_rows f_l_rows d_l_rows
  B_l_rows : Binds K d_l_rows ["_law_script", "_law_tape", "_law_deep", "_law_room"] []
  m_l_rows : mg "_law_rows" = some (.ref f_l_rows)
  f_l_kind : Addr
  d_l_kind : FuncData
  F_l_kind : Fun K "_law_kind" "_law_kind" s_l_kind f_l_kind d_l_kind
  B_l_kind : Binds K d_l_kind ["_law_script", "_law_tape"] []
  m_l_kind : mg "_law_kind" = some (.ref f_l_kind)
  f_l_param : Addr
  d_l_param : FuncData
  F_l_param : Fun K "_law_param" "_law_param" s_l_param f_l_param d_l_param
  B_l_param : Binds K d_l_param ["_law_script", "_law_tape"] []
  m_l_param : mg "_law_param" = some (.ref f_l_param)
  f_l_program : Addr
  d_l_program : FuncData
  F_l_program : Fun K "_law_program" "_law_program" s_l_program f_l_program d_l_program
  B_l_program : Binds K d_l_program ["_law_script", "_law_tape"] []
  m_l_program : mg "_law_program" = some (.ref f_l_program)
  f_l_box_row : Addr
  d_l_box_row : FuncData
  F_l_box_row : Fun K "_law_box_row" "_law_box_row" s_l_box_row f_l_box_row d_l_box_row
  B_l_box_row : Binds K d_l_box_row ["_law_told"] []
  m_l_box_row : mg "_law_box_row" = some (.ref f_l_box_row)
  f_l_made : Addr
  d_l_made : FuncData
  F_l_made : Fun K "_law_made" "_law_made" s_l_made f_l_made d_l_made
  B_l_made : Binds K d_l_made ["_law_told"] []
  m_l_made : mg "_law_made" = some (.ref f_l_made)
  f_l_made_program : Addr
  d_l_made_program : FuncData
  F_l_made_program : Fun K "_law_made_program" "_law_made_program" s_l_made_program f_l_made_program d_l_made_program
  B_l_made_program : Binds K d_l_made_program ["_law_told"] []
  m_l_made_program : mg "_law_made_program" = some (.ref f_l_made_program)
  f_l_alike : Addr
  d_l_alike : FuncData
  F_l_alike : Fun K "_law_alike" "_law_alike" s_l_alike f_l_alike d_l_alike
  B_l_alike : Binds K d_l_alike ["_law_found", "_law_due"] []
  m_l_alike : mg "_law_alike" = some (.ref f_l_alike)
  f_l_shown : Addr
  d_l_shown : FuncData
  F_l_shown : Fun K "_law_shown" "_law_shown" s_l_shown f_l_shown d_l_shown
  B_l_shown : Binds K d_l_shown ["_law_thing"] []
  m_l_shown : mg "_law_shown" = some (.ref f_l_shown)
  f_l_head : Addr
  d_l_head : FuncData
  F_l_head : Fun K "_law_head" "_law_head" s_l_head f_l_head d_l_head
  B_l_head : Binds K d_l_head ["_law_told"] []
  m_l_head : mg "_law_head" = some (.ref f_l_head)
  f_l_lines : Addr
  d_l_lines : FuncData
  F_l_lines : Fun K "_law_lines" "_law_lines" s_l_lines f_l_lines d_l_lines
  B_l_lines : Binds K d_l_lines ["_law_rows_here", "_law_deep"] []
  m_l_lines : mg "_law_lines" = some (.ref f_l_lines)
  f_l_text_lines : Addr
  d_l_text_lines : FuncData
  F_l_text_lines : Fun K "_law_text_lines" "_law_text_lines" s_l_text_lines f_l_text_lines d_l_text_lines
  B_l_text_lines : Binds K d_l_text_lines ["_law_told"] []
  m_l_text_lines : mg "_law_text_lines" = some (.ref f_l_text_lines)
  f_law : Addr
  d_law : FuncData
  F_law : Fun K "law" "law" s_law f_law d_law
  B_law : Binds K d_law ["_law_script"] []
  m_law : mg "law" = some (.ref f_law)
  M_SetRow_told : Meth K a_SetRow "told" f_SetRow_told
  M_SetRow_head : Meth K a_SetRow "head" f_SetRow_head
  M_MakeRow_told : Meth K a_MakeRow "told" f_MakeRow_told
  M_MakeRow_head : Meth K a_MakeRow "head" f_MakeRow_head
  M_NoneRow_told : Meth K a_NoneRow "told" f_NoneRow_told
  M_NoneRow_head : Meth K a_NoneRow "head" f_Row_head
  M_GiveRow_told : Meth K a_GiveRow "told" f_GiveRow_told
  M_GiveRow_head : Meth K a_GiveRow "head" f_Row_head
  M_TakeRow_told : Meth K a_TakeRow "told" f_TakeRow_told
  M_TakeRow_head : Meth K a_TakeRow "head" f_Row_head
  M_FillRow_told : Meth K a_FillRow "told" f_FillRow_told
  M_FillRow_head : Meth K a_FillRow "head" f_Row_head
  M_SwapRow_told : Meth K a_SwapRow "told" f_SwapRow_told
  M_SwapRow_head : Meth K a_SwapRow "head" f_Row_head
  M_GetRow_told : Meth K a_GetRow "told" f_GetRow_told
  M_GetRow_head : Meth K a_GetRow "head" f_Row_head
  M_PutRow_told : Meth K a_PutRow "told" f_PutRow_told
  M_PutRow_head : Meth K a_PutRow "head" f_Row_head
  M_HasRow_told : Meth K a_HasRow "told" f_HasRow_told
  M_HasRow_head : Meth K a_HasRow "head" f_HasRow_head
  M_DropRow_told : Meth K a_DropRow "told" f_DropRow_told
  M_DropRow_head : Meth K a_DropRow "head" f_Row_head
  M_LendRow_told : Meth K a_LendRow "told" f_LendRow_told
  M_LendRow_head : Meth K a_LendRow "head" f_Row_head
  M_StepRow_told : Meth K a_StepRow "told" f_StepRow_told
  M_StepRow_head : Meth K a_StepRow "head" f_Row_head
  M_CallRow_told : Meth K a_CallRow "told" f_CallRow_told
  M_CallRow_head : Meth K a_CallRow "head" f_CallRow_head
  M_BackRow_told : Meth K a_BackRow "told" f_BackRow_told
  M_BackRow_head : Meth K a_BackRow "head" f_Row_head
  M_AskRow_told : Meth K a_AskRow "told" f_AskRow_told
  M_AskRow_head : Meth K a_AskRow "head" f_Row_head
  M_TellRow_told : Meth K a_TellRow "told" f_TellRow_told
  M_TellRow_head : Meth K a_TellRow "head" f_Row_head
  M_IfRow_told : Meth K a_IfRow "told" f_IfRow_told
  M_IfRow_head : Meth K a_IfRow "head" f_IfRow_head
  M_WhileRow_told : Meth K a_WhileRow "told" f_WhileRow_told
  M_WhileRow_head : Meth K a_WhileRow "head" f_WhileRow_head
  M_Record_told : Meth K a_Record "told" f_Record_told
  M_Helper_told : Meth K a_Helper "told" f_Helper_told
  M_Program_told : Meth K a_Program "told" f_Program_told
  isi : isiB K [a_SetRow, a_MakeRow, a_NoneRow, a_GiveRow, a_TakeRow, a_FillRow, a_SwapRow, a_GetRow, a_PutRow, a_HasRow, a_DropRow, a_LendRow, a_StepRow, a_CallRow, a_BackRow, a_AskRow, a_TellRow, a_IfRow, a_WhileRow] a_Row = true
def spLaw (K : PySem.W.Frag) : Sp := fun vs H Q _ => ∃ (a : Addr) (ns : List Int), vs = [.ref a] ∧ SqL K H a (ns.map V.int) ∧ ns.length ≤ 63 ∧ ∀ H', Q (.bl true) H'
/-! ### the head: facts as Bool functions of the written part, one kernel run of the top -/
def eqB {α : Type} [BEq α] (a b : Option α) : Bool := a == b
theorem eqB_ok {α : Type} [BEq α] [LawfulBEq α] {a b : Option α} (h : eqB a b = true) : a = b := eq_of_beq h
def intIs : Option (Option Value) → Int → Bool
  | some (some (.int i _)), v => i == v
  | _, _ => false
theorem intIs_ok {o : Option (Option Value)} {v : Int} (h : intIs o v = true) : ∃ t, o = some (some (.int v t)) := by
  unfold intIs at h
  split at h
  · exact ⟨_, by rw [eq_of_beq h]⟩
  · cases h
def hf0 : List (PySem.W.Frag → Bool) := [fun K => He.eqO (PySem.W.nsIn K mainGlobals "isinstance") (some none),
  fun K => He.eqO (PySem.W.nsIn K mainGlobals "tuple") (some none),
  fun K => He.eqO (PySem.W.nsIn K mainGlobals "str") (some none),
  fun K => He.eqO (PySem.W.nsIn K mainGlobals "len") (some none),
  fun K => He.eqO (PySem.W.nsIn K mainGlobals "range") (some none),
  fun K => He.eqO (PySem.W.nsIn K mainGlobals "all") (some none),
  fun K => He.eqO (PySem.W.nsIn K mainGlobals "zip") (some none),
  fun K => He.eqO (PySem.W.nsIn K mainGlobals "int") (some none),
  fun K => He.eqO (PySem.W.nsIn K mainGlobals "bool") (some none),
  fun K => He.eqO (PySem.W.nsIn K mainGlobals "SetRow") (some (some (.ref (He.ga K "SetRow")))),
  fun K => PySem.W.plainGet K (He.ga K "SetRow") Str.empty,
  fun K => PySem.W.hasDictIn K (He.ga K "SetRow"),
  fun K => PySem.W.plainOver K (He.ga K "SetRow"),
  fun K => He.eqO (PySem.W.findIn K (.ref (He.ga K "SetRow")) "__setattr__") (some (some (.builtin "object.__setattr__"))),
  fun K => PySem.W.makesIn K (He.ga K "SetRow"),
  fun K => PySem.W.keepIn K (.ref (He.ga K "SetRow")),
  fun K => He.eqO (PySem.W.findIn K (.ref (He.ga K "SetRow")) "name") (some none),
  fun K => He.eqO (PySem.W.findIn K (.ref (He.ga K "SetRow")) "one") (some none),
  fun K => He.eqO (PySem.W.findIn K (.ref (He.ga K "SetRow")) "sign") (some none),
  fun K => He.eqO (PySem.W.findIn K (.ref (He.ga K "SetRow")) "other") (some none),
  fun K => He.eqO (PySem.W.nsIn K mainGlobals "MakeRow") (some (some (.ref (He.ga K "MakeRow")))),
  fun K => PySem.W.plainGet K (He.ga K "MakeRow") Str.empty,
  fun K => PySem.W.hasDictIn K (He.ga K "MakeRow"),
  fun K => PySem.W.plainOver K (He.ga K "MakeRow"),
  fun K => He.eqO (PySem.W.findIn K (.ref (He.ga K "MakeRow")) "__setattr__") (some (some (.builtin "object.__setattr__")))]
def hf1 : List (PySem.W.Frag → Bool) := [fun K => PySem.W.makesIn K (He.ga K "MakeRow"),
  fun K => PySem.W.keepIn K (.ref (He.ga K "MakeRow")),
  fun K => He.eqO (PySem.W.findIn K (.ref (He.ga K "MakeRow")) "name") (some none),
  fun K => He.eqO (PySem.W.findIn K (.ref (He.ga K "MakeRow")) "record") (some none),
  fun K => He.eqO (PySem.W.findIn K (.ref (He.ga K "MakeRow")) "atoms") (some none),
  fun K => He.eqO (PySem.W.nsIn K mainGlobals "NoneRow") (some (some (.ref (He.ga K "NoneRow")))),
  fun K => PySem.W.plainGet K (He.ga K "NoneRow") Str.empty,
  fun K => PySem.W.hasDictIn K (He.ga K "NoneRow"),
  fun K => PySem.W.plainOver K (He.ga K "NoneRow"),
  fun K => He.eqO (PySem.W.findIn K (.ref (He.ga K "NoneRow")) "__setattr__") (some (some (.builtin "object.__setattr__"))),
  fun K => PySem.W.makesIn K (He.ga K "NoneRow"),
  fun K => PySem.W.keepIn K (.ref (He.ga K "NoneRow")),
  fun K => He.eqO (PySem.W.findIn K (.ref (He.ga K "NoneRow")) "name") (some none),
  fun K => He.eqO (PySem.W.findIn K (.ref (He.ga K "NoneRow")) "record") (some none),
  fun K => He.eqO (PySem.W.nsIn K mainGlobals "GiveRow") (some (some (.ref (He.ga K "GiveRow")))),
  fun K => PySem.W.plainGet K (He.ga K "GiveRow") Str.empty,
  fun K => PySem.W.hasDictIn K (He.ga K "GiveRow"),
  fun K => PySem.W.plainOver K (He.ga K "GiveRow"),
  fun K => He.eqO (PySem.W.findIn K (.ref (He.ga K "GiveRow")) "__setattr__") (some (some (.builtin "object.__setattr__"))),
  fun K => PySem.W.makesIn K (He.ga K "GiveRow"),
  fun K => PySem.W.keepIn K (.ref (He.ga K "GiveRow")),
  fun K => He.eqO (PySem.W.findIn K (.ref (He.ga K "GiveRow")) "name") (some none),
  fun K => He.eqO (PySem.W.findIn K (.ref (He.ga K "GiveRow")) "other") (some none),
  fun K => He.eqO (PySem.W.nsIn K mainGlobals "TakeRow") (some (some (.ref (He.ga K "TakeRow")))),
  fun K => PySem.W.plainGet K (He.ga K "TakeRow") Str.empty]
def hf2 : List (PySem.W.Frag → Bool) := [fun K => PySem.W.hasDictIn K (He.ga K "TakeRow"),
  fun K => PySem.W.plainOver K (He.ga K "TakeRow"),
  fun K => He.eqO (PySem.W.findIn K (.ref (He.ga K "TakeRow")) "__setattr__") (some (some (.builtin "object.__setattr__"))),
  fun K => PySem.W.makesIn K (He.ga K "TakeRow"),
  fun K => PySem.W.keepIn K (.ref (He.ga K "TakeRow")),
  fun K => He.eqO (PySem.W.findIn K (.ref (He.ga K "TakeRow")) "name") (some none),
  fun K => He.eqO (PySem.W.findIn K (.ref (He.ga K "TakeRow")) "path") (some none),
  fun K => He.eqO (PySem.W.nsIn K mainGlobals "FillRow") (some (some (.ref (He.ga K "FillRow")))),
  fun K => PySem.W.plainGet K (He.ga K "FillRow") Str.empty,
  fun K => PySem.W.hasDictIn K (He.ga K "FillRow"),
  fun K => PySem.W.plainOver K (He.ga K "FillRow"),
  fun K => He.eqO (PySem.W.findIn K (.ref (He.ga K "FillRow")) "__setattr__") (some (some (.builtin "object.__setattr__"))),
  fun K => PySem.W.makesIn K (He.ga K "FillRow"),
  fun K => PySem.W.keepIn K (.ref (He.ga K "FillRow")),
  fun K => He.eqO (PySem.W.findIn K (.ref (He.ga K "FillRow")) "path") (some none),
  fun K => He.eqO (PySem.W.findIn K (.ref (He.ga K "FillRow")) "name") (some none),
  fun K => He.eqO (PySem.W.nsIn K mainGlobals "SwapRow") (some (some (.ref (He.ga K "SwapRow")))),
  fun K => PySem.W.plainGet K (He.ga K "SwapRow") Str.empty,
  fun K => PySem.W.hasDictIn K (He.ga K "SwapRow"),
  fun K => PySem.W.plainOver K (He.ga K "SwapRow"),
  fun K => He.eqO (PySem.W.findIn K (.ref (He.ga K "SwapRow")) "__setattr__") (some (some (.builtin "object.__setattr__"))),
  fun K => PySem.W.makesIn K (He.ga K "SwapRow"),
  fun K => PySem.W.keepIn K (.ref (He.ga K "SwapRow")),
  fun K => He.eqO (PySem.W.findIn K (.ref (He.ga K "SwapRow")) "name") (some none),
  fun K => He.eqO (PySem.W.findIn K (.ref (He.ga K "SwapRow")) "path") (some none)]
def hf3 : List (PySem.W.Frag → Bool) := [fun K => He.eqO (PySem.W.nsIn K mainGlobals "GetRow") (some (some (.ref (He.ga K "GetRow")))),
  fun K => PySem.W.plainGet K (He.ga K "GetRow") Str.empty,
  fun K => PySem.W.hasDictIn K (He.ga K "GetRow"),
  fun K => PySem.W.plainOver K (He.ga K "GetRow"),
  fun K => He.eqO (PySem.W.findIn K (.ref (He.ga K "GetRow")) "__setattr__") (some (some (.builtin "object.__setattr__"))),
  fun K => PySem.W.makesIn K (He.ga K "GetRow"),
  fun K => PySem.W.keepIn K (.ref (He.ga K "GetRow")),
  fun K => He.eqO (PySem.W.findIn K (.ref (He.ga K "GetRow")) "name") (some none),
  fun K => He.eqO (PySem.W.findIn K (.ref (He.ga K "GetRow")) "path") (some none),
  fun K => He.eqO (PySem.W.nsIn K mainGlobals "PutRow") (some (some (.ref (He.ga K "PutRow")))),
  fun K => PySem.W.plainGet K (He.ga K "PutRow") Str.empty,
  fun K => PySem.W.hasDictIn K (He.ga K "PutRow"),
  fun K => PySem.W.plainOver K (He.ga K "PutRow"),
  fun K => He.eqO (PySem.W.findIn K (.ref (He.ga K "PutRow")) "__setattr__") (some (some (.builtin "object.__setattr__"))),
  fun K => PySem.W.makesIn K (He.ga K "PutRow"),
  fun K => PySem.W.keepIn K (.ref (He.ga K "PutRow")),
  fun K => He.eqO (PySem.W.findIn K (.ref (He.ga K "PutRow")) "path") (some none),
  fun K => He.eqO (PySem.W.findIn K (.ref (He.ga K "PutRow")) "atom") (some none),
  fun K => He.eqO (PySem.W.nsIn K mainGlobals "HasRow") (some (some (.ref (He.ga K "HasRow")))),
  fun K => PySem.W.plainGet K (He.ga K "HasRow") Str.empty,
  fun K => PySem.W.hasDictIn K (He.ga K "HasRow"),
  fun K => PySem.W.plainOver K (He.ga K "HasRow"),
  fun K => He.eqO (PySem.W.findIn K (.ref (He.ga K "HasRow")) "__setattr__") (some (some (.builtin "object.__setattr__"))),
  fun K => PySem.W.makesIn K (He.ga K "HasRow"),
  fun K => PySem.W.keepIn K (.ref (He.ga K "HasRow"))]
def hf4 : List (PySem.W.Frag → Bool) := [fun K => He.eqO (PySem.W.findIn K (.ref (He.ga K "HasRow")) "name") (some none),
  fun K => He.eqO (PySem.W.findIn K (.ref (He.ga K "HasRow")) "path") (some none),
  fun K => He.eqO (PySem.W.nsIn K mainGlobals "DropRow") (some (some (.ref (He.ga K "DropRow")))),
  fun K => PySem.W.plainGet K (He.ga K "DropRow") Str.empty,
  fun K => PySem.W.hasDictIn K (He.ga K "DropRow"),
  fun K => PySem.W.plainOver K (He.ga K "DropRow"),
  fun K => He.eqO (PySem.W.findIn K (.ref (He.ga K "DropRow")) "__setattr__") (some (some (.builtin "object.__setattr__"))),
  fun K => PySem.W.makesIn K (He.ga K "DropRow"),
  fun K => PySem.W.keepIn K (.ref (He.ga K "DropRow")),
  fun K => He.eqO (PySem.W.findIn K (.ref (He.ga K "DropRow")) "name") (some none),
  fun K => He.eqO (PySem.W.nsIn K mainGlobals "LendRow") (some (some (.ref (He.ga K "LendRow")))),
  fun K => PySem.W.plainGet K (He.ga K "LendRow") Str.empty,
  fun K => PySem.W.hasDictIn K (He.ga K "LendRow"),
  fun K => PySem.W.plainOver K (He.ga K "LendRow"),
  fun K => He.eqO (PySem.W.findIn K (.ref (He.ga K "LendRow")) "__setattr__") (some (some (.builtin "object.__setattr__"))),
  fun K => PySem.W.makesIn K (He.ga K "LendRow"),
  fun K => PySem.W.keepIn K (.ref (He.ga K "LendRow")),
  fun K => He.eqO (PySem.W.findIn K (.ref (He.ga K "LendRow")) "mode") (some none),
  fun K => He.eqO (PySem.W.findIn K (.ref (He.ga K "LendRow")) "name") (some none),
  fun K => He.eqO (PySem.W.findIn K (.ref (He.ga K "LendRow")) "path") (some none),
  fun K => He.eqO (PySem.W.nsIn K mainGlobals "StepRow") (some (some (.ref (He.ga K "StepRow")))),
  fun K => PySem.W.plainGet K (He.ga K "StepRow") Str.empty,
  fun K => PySem.W.hasDictIn K (He.ga K "StepRow"),
  fun K => PySem.W.plainOver K (He.ga K "StepRow"),
  fun K => He.eqO (PySem.W.findIn K (.ref (He.ga K "StepRow")) "__setattr__") (some (some (.builtin "object.__setattr__")))]
def hf5 : List (PySem.W.Frag → Bool) := [fun K => PySem.W.makesIn K (He.ga K "StepRow"),
  fun K => PySem.W.keepIn K (.ref (He.ga K "StepRow")),
  fun K => He.eqO (PySem.W.findIn K (.ref (He.ga K "StepRow")) "name") (some none),
  fun K => He.eqO (PySem.W.findIn K (.ref (He.ga K "StepRow")) "field") (some none),
  fun K => He.eqO (PySem.W.nsIn K mainGlobals "CallRow") (some (some (.ref (He.ga K "CallRow")))),
  fun K => PySem.W.plainGet K (He.ga K "CallRow") Str.empty,
  fun K => PySem.W.hasDictIn K (He.ga K "CallRow"),
  fun K => PySem.W.plainOver K (He.ga K "CallRow"),
  fun K => He.eqO (PySem.W.findIn K (.ref (He.ga K "CallRow")) "__setattr__") (some (some (.builtin "object.__setattr__"))),
  fun K => PySem.W.makesIn K (He.ga K "CallRow"),
  fun K => PySem.W.keepIn K (.ref (He.ga K "CallRow")),
  fun K => He.eqO (PySem.W.findIn K (.ref (He.ga K "CallRow")) "name") (some none),
  fun K => He.eqO (PySem.W.findIn K (.ref (He.ga K "CallRow")) "helper") (some none),
  fun K => He.eqO (PySem.W.findIn K (.ref (He.ga K "CallRow")) "given") (some none),
  fun K => He.eqO (PySem.W.nsIn K mainGlobals "BackRow") (some (some (.ref (He.ga K "BackRow")))),
  fun K => PySem.W.plainGet K (He.ga K "BackRow") Str.empty,
  fun K => PySem.W.hasDictIn K (He.ga K "BackRow"),
  fun K => PySem.W.plainOver K (He.ga K "BackRow"),
  fun K => He.eqO (PySem.W.findIn K (.ref (He.ga K "BackRow")) "__setattr__") (some (some (.builtin "object.__setattr__"))),
  fun K => PySem.W.makesIn K (He.ga K "BackRow"),
  fun K => PySem.W.keepIn K (.ref (He.ga K "BackRow")),
  fun K => He.eqO (PySem.W.findIn K (.ref (He.ga K "BackRow")) "atom") (some none),
  fun K => He.eqO (PySem.W.nsIn K mainGlobals "AskRow") (some (some (.ref (He.ga K "AskRow")))),
  fun K => PySem.W.plainGet K (He.ga K "AskRow") Str.empty,
  fun K => PySem.W.hasDictIn K (He.ga K "AskRow")]
def hf6 : List (PySem.W.Frag → Bool) := [fun K => PySem.W.plainOver K (He.ga K "AskRow"),
  fun K => He.eqO (PySem.W.findIn K (.ref (He.ga K "AskRow")) "__setattr__") (some (some (.builtin "object.__setattr__"))),
  fun K => PySem.W.makesIn K (He.ga K "AskRow"),
  fun K => PySem.W.keepIn K (.ref (He.ga K "AskRow")),
  fun K => He.eqO (PySem.W.findIn K (.ref (He.ga K "AskRow")) "name") (some none),
  fun K => He.eqO (PySem.W.nsIn K mainGlobals "TellRow") (some (some (.ref (He.ga K "TellRow")))),
  fun K => PySem.W.plainGet K (He.ga K "TellRow") Str.empty,
  fun K => PySem.W.hasDictIn K (He.ga K "TellRow"),
  fun K => PySem.W.plainOver K (He.ga K "TellRow"),
  fun K => He.eqO (PySem.W.findIn K (.ref (He.ga K "TellRow")) "__setattr__") (some (some (.builtin "object.__setattr__"))),
  fun K => PySem.W.makesIn K (He.ga K "TellRow"),
  fun K => PySem.W.keepIn K (.ref (He.ga K "TellRow")),
  fun K => He.eqO (PySem.W.findIn K (.ref (He.ga K "TellRow")) "atom") (some none),
  fun K => He.eqO (PySem.W.nsIn K mainGlobals "IfRow") (some (some (.ref (He.ga K "IfRow")))),
  fun K => PySem.W.plainGet K (He.ga K "IfRow") Str.empty,
  fun K => PySem.W.hasDictIn K (He.ga K "IfRow"),
  fun K => PySem.W.plainOver K (He.ga K "IfRow"),
  fun K => He.eqO (PySem.W.findIn K (.ref (He.ga K "IfRow")) "__setattr__") (some (some (.builtin "object.__setattr__"))),
  fun K => PySem.W.makesIn K (He.ga K "IfRow"),
  fun K => PySem.W.keepIn K (.ref (He.ga K "IfRow")),
  fun K => He.eqO (PySem.W.findIn K (.ref (He.ga K "IfRow")) "atom") (some none),
  fun K => He.eqO (PySem.W.findIn K (.ref (He.ga K "IfRow")) "rows") (some none),
  fun K => He.eqO (PySem.W.findIn K (.ref (He.ga K "IfRow")) "others") (some none),
  fun K => He.eqO (PySem.W.nsIn K mainGlobals "WhileRow") (some (some (.ref (He.ga K "WhileRow")))),
  fun K => PySem.W.plainGet K (He.ga K "WhileRow") Str.empty]
def hf7 : List (PySem.W.Frag → Bool) := [fun K => PySem.W.hasDictIn K (He.ga K "WhileRow"),
  fun K => PySem.W.plainOver K (He.ga K "WhileRow"),
  fun K => He.eqO (PySem.W.findIn K (.ref (He.ga K "WhileRow")) "__setattr__") (some (some (.builtin "object.__setattr__"))),
  fun K => PySem.W.makesIn K (He.ga K "WhileRow"),
  fun K => PySem.W.keepIn K (.ref (He.ga K "WhileRow")),
  fun K => He.eqO (PySem.W.findIn K (.ref (He.ga K "WhileRow")) "atom") (some none),
  fun K => He.eqO (PySem.W.findIn K (.ref (He.ga K "WhileRow")) "rows") (some none),
  fun K => He.eqO (PySem.W.nsIn K mainGlobals "Record") (some (some (.ref (He.ga K "Record")))),
  fun K => PySem.W.plainGet K (He.ga K "Record") Str.empty,
  fun K => PySem.W.hasDictIn K (He.ga K "Record"),
  fun K => PySem.W.plainOver K (He.ga K "Record"),
  fun K => He.eqO (PySem.W.findIn K (.ref (He.ga K "Record")) "__setattr__") (some (some (.builtin "object.__setattr__"))),
  fun K => PySem.W.makesIn K (He.ga K "Record"),
  fun K => PySem.W.keepIn K (.ref (He.ga K "Record")),
  fun K => He.eqO (PySem.W.findIn K (.ref (He.ga K "Record")) "name") (some none),
  fun K => He.eqO (PySem.W.findIn K (.ref (He.ga K "Record")) "fields") (some none),
  fun K => He.eqO (PySem.W.nsIn K mainGlobals "Helper") (some (some (.ref (He.ga K "Helper")))),
  fun K => PySem.W.plainGet K (He.ga K "Helper") Str.empty,
  fun K => PySem.W.hasDictIn K (He.ga K "Helper"),
  fun K => PySem.W.plainOver K (He.ga K "Helper"),
  fun K => He.eqO (PySem.W.findIn K (.ref (He.ga K "Helper")) "__setattr__") (some (some (.builtin "object.__setattr__"))),
  fun K => PySem.W.makesIn K (He.ga K "Helper"),
  fun K => PySem.W.keepIn K (.ref (He.ga K "Helper")),
  fun K => He.eqO (PySem.W.findIn K (.ref (He.ga K "Helper")) "name") (some none),
  fun K => He.eqO (PySem.W.findIn K (.ref (He.ga K "Helper")) "params") (some none)]
def hf8 : List (PySem.W.Frag → Bool) := [fun K => He.eqO (PySem.W.findIn K (.ref (He.ga K "Helper")) "gives") (some none),
  fun K => He.eqO (PySem.W.findIn K (.ref (He.ga K "Helper")) "rows") (some none),
  fun K => He.eqO (PySem.W.nsIn K mainGlobals "Program") (some (some (.ref (He.ga K "Program")))),
  fun K => PySem.W.plainGet K (He.ga K "Program") Str.empty,
  fun K => PySem.W.hasDictIn K (He.ga K "Program"),
  fun K => PySem.W.plainOver K (He.ga K "Program"),
  fun K => He.eqO (PySem.W.findIn K (.ref (He.ga K "Program")) "__setattr__") (some (some (.builtin "object.__setattr__"))),
  fun K => PySem.W.makesIn K (He.ga K "Program"),
  fun K => PySem.W.keepIn K (.ref (He.ga K "Program")),
  fun K => He.eqO (PySem.W.findIn K (.ref (He.ga K "Program")) "records") (some none),
  fun K => He.eqO (PySem.W.findIn K (.ref (He.ga K "Program")) "helpers") (some none),
  fun K => He.eqO (PySem.W.nsIn K mainGlobals "Row") (some (some (.ref (He.ga K "Row")))),
  fun K => PySem.W.plainGet K (He.ga K "Row") Str.empty,
  fun K => PySem.W.hasDictIn K (He.ga K "Row"),
  fun K => PySem.W.plainOver K (He.ga K "Row"),
  fun K => He.eqO (PySem.W.findIn K (.ref (He.ga K "Row")) "__setattr__") (some (some (.builtin "object.__setattr__"))),
  fun K => isiB K [(He.ga K "SetRow"), (He.ga K "MakeRow"), (He.ga K "NoneRow"), (He.ga K "GiveRow"), (He.ga K "TakeRow"), (He.ga K "FillRow"), (He.ga K "SwapRow"), (He.ga K "GetRow"), (He.ga K "PutRow"), (He.ga K "HasRow"), (He.ga K "DropRow"), (He.ga K "LendRow"), (He.ga K "StepRow"), (He.ga K "CallRow"), (He.ga K "BackRow"), (He.ga K "AskRow"), (He.ga K "TellRow"), (He.ga K "IfRow"), (He.ga K "WhileRow")] (He.ga K "Row"),
  fun K => He.eqO (PySem.W.nsIn K mainGlobals "shown") (some (some (.ref (He.fAd K ("shown", none))))),
  fun K => PySem.W.keepIn K (.ref (He.fAd K ("shown", none))),
  fun K => He.eqO (PySem.W.findIn K (.ref (He.ga K "NoneRow")) "head") (some (some (.ref (He.fAd K ("Row", some "head"))))),
  fun K => He.eqO (PySem.W.findIn K (.ref (He.ga K "GiveRow")) "head") (some (some (.ref (He.fAd K ("Row", some "head"))))),
  fun K => He.eqO (PySem.W.findIn K (.ref (He.ga K "TakeRow")) "head") (some (some (.ref (He.fAd K ("Row", some "head"))))),
  fun K => He.eqO (PySem.W.findIn K (.ref (He.ga K "FillRow")) "head") (some (some (.ref (He.fAd K ("Row", some "head"))))),
  fun K => He.eqO (PySem.W.findIn K (.ref (He.ga K "SwapRow")) "head") (some (some (.ref (He.fAd K ("Row", some "head"))))),
  fun K => He.eqO (PySem.W.findIn K (.ref (He.ga K "GetRow")) "head") (some (some (.ref (He.fAd K ("Row", some "head")))))]
def hf9 : List (PySem.W.Frag → Bool) := [fun K => He.eqO (PySem.W.findIn K (.ref (He.ga K "PutRow")) "head") (some (some (.ref (He.fAd K ("Row", some "head"))))),
  fun K => He.eqO (PySem.W.findIn K (.ref (He.ga K "DropRow")) "head") (some (some (.ref (He.fAd K ("Row", some "head"))))),
  fun K => He.eqO (PySem.W.findIn K (.ref (He.ga K "LendRow")) "head") (some (some (.ref (He.fAd K ("Row", some "head"))))),
  fun K => He.eqO (PySem.W.findIn K (.ref (He.ga K "StepRow")) "head") (some (some (.ref (He.fAd K ("Row", some "head"))))),
  fun K => He.eqO (PySem.W.findIn K (.ref (He.ga K "BackRow")) "head") (some (some (.ref (He.fAd K ("Row", some "head"))))),
  fun K => He.eqO (PySem.W.findIn K (.ref (He.ga K "AskRow")) "head") (some (some (.ref (He.fAd K ("Row", some "head"))))),
  fun K => He.eqO (PySem.W.findIn K (.ref (He.ga K "TellRow")) "head") (some (some (.ref (He.fAd K ("Row", some "head"))))),
  fun K => PySem.W.isFn K (.ref (He.fAd K ("Row", some "head"))),
  fun K => PySem.W.keepIn K (.ref (He.fAd K ("Row", some "head"))),
  fun K => He.eqO (PySem.W.findIn K (.ref (He.ga K "SetRow")) "__init__") (some (some (.ref (He.fAd K ("SetRow", some "__init__"))))),
  fun K => PySem.W.isFn K (.ref (He.fAd K ("SetRow", some "__init__"))),
  fun K => PySem.W.keepIn K (.ref (He.fAd K ("SetRow", some "__init__"))),
  fun K => He.eqO (PySem.W.findIn K (.ref (He.ga K "SetRow")) "told") (some (some (.ref (He.fAd K ("SetRow", some "told"))))),
  fun K => PySem.W.isFn K (.ref (He.fAd K ("SetRow", some "told"))),
  fun K => PySem.W.keepIn K (.ref (He.fAd K ("SetRow", some "told"))),
  fun K => He.eqO (PySem.W.findIn K (.ref (He.ga K "MakeRow")) "__init__") (some (some (.ref (He.fAd K ("MakeRow", some "__init__"))))),
  fun K => PySem.W.isFn K (.ref (He.fAd K ("MakeRow", some "__init__"))),
  fun K => PySem.W.keepIn K (.ref (He.fAd K ("MakeRow", some "__init__"))),
  fun K => He.eqO (PySem.W.findIn K (.ref (He.ga K "MakeRow")) "told") (some (some (.ref (He.fAd K ("MakeRow", some "told"))))),
  fun K => PySem.W.isFn K (.ref (He.fAd K ("MakeRow", some "told"))),
  fun K => PySem.W.keepIn K (.ref (He.fAd K ("MakeRow", some "told"))),
  fun K => He.eqO (PySem.W.findIn K (.ref (He.ga K "NoneRow")) "__init__") (some (some (.ref (He.fAd K ("NoneRow", some "__init__"))))),
  fun K => PySem.W.isFn K (.ref (He.fAd K ("NoneRow", some "__init__"))),
  fun K => PySem.W.keepIn K (.ref (He.fAd K ("NoneRow", some "__init__"))),
  fun K => He.eqO (PySem.W.findIn K (.ref (He.ga K "NoneRow")) "told") (some (some (.ref (He.fAd K ("NoneRow", some "told")))))]
def hf10 : List (PySem.W.Frag → Bool) := [fun K => PySem.W.isFn K (.ref (He.fAd K ("NoneRow", some "told"))),
  fun K => PySem.W.keepIn K (.ref (He.fAd K ("NoneRow", some "told"))),
  fun K => He.eqO (PySem.W.findIn K (.ref (He.ga K "GiveRow")) "__init__") (some (some (.ref (He.fAd K ("GiveRow", some "__init__"))))),
  fun K => PySem.W.isFn K (.ref (He.fAd K ("GiveRow", some "__init__"))),
  fun K => PySem.W.keepIn K (.ref (He.fAd K ("GiveRow", some "__init__"))),
  fun K => He.eqO (PySem.W.findIn K (.ref (He.ga K "GiveRow")) "told") (some (some (.ref (He.fAd K ("GiveRow", some "told"))))),
  fun K => PySem.W.isFn K (.ref (He.fAd K ("GiveRow", some "told"))),
  fun K => PySem.W.keepIn K (.ref (He.fAd K ("GiveRow", some "told"))),
  fun K => He.eqO (PySem.W.findIn K (.ref (He.ga K "TakeRow")) "__init__") (some (some (.ref (He.fAd K ("TakeRow", some "__init__"))))),
  fun K => PySem.W.isFn K (.ref (He.fAd K ("TakeRow", some "__init__"))),
  fun K => PySem.W.keepIn K (.ref (He.fAd K ("TakeRow", some "__init__"))),
  fun K => He.eqO (PySem.W.findIn K (.ref (He.ga K "TakeRow")) "told") (some (some (.ref (He.fAd K ("TakeRow", some "told"))))),
  fun K => PySem.W.isFn K (.ref (He.fAd K ("TakeRow", some "told"))),
  fun K => PySem.W.keepIn K (.ref (He.fAd K ("TakeRow", some "told"))),
  fun K => He.eqO (PySem.W.findIn K (.ref (He.ga K "FillRow")) "__init__") (some (some (.ref (He.fAd K ("FillRow", some "__init__"))))),
  fun K => PySem.W.isFn K (.ref (He.fAd K ("FillRow", some "__init__"))),
  fun K => PySem.W.keepIn K (.ref (He.fAd K ("FillRow", some "__init__"))),
  fun K => He.eqO (PySem.W.findIn K (.ref (He.ga K "FillRow")) "told") (some (some (.ref (He.fAd K ("FillRow", some "told"))))),
  fun K => PySem.W.isFn K (.ref (He.fAd K ("FillRow", some "told"))),
  fun K => PySem.W.keepIn K (.ref (He.fAd K ("FillRow", some "told"))),
  fun K => He.eqO (PySem.W.findIn K (.ref (He.ga K "SwapRow")) "__init__") (some (some (.ref (He.fAd K ("SwapRow", some "__init__"))))),
  fun K => PySem.W.isFn K (.ref (He.fAd K ("SwapRow", some "__init__"))),
  fun K => PySem.W.keepIn K (.ref (He.fAd K ("SwapRow", some "__init__"))),
  fun K => He.eqO (PySem.W.findIn K (.ref (He.ga K "SwapRow")) "told") (some (some (.ref (He.fAd K ("SwapRow", some "told"))))),
  fun K => PySem.W.isFn K (.ref (He.fAd K ("SwapRow", some "told")))]
def hf11 : List (PySem.W.Frag → Bool) := [fun K => PySem.W.keepIn K (.ref (He.fAd K ("SwapRow", some "told"))),
  fun K => He.eqO (PySem.W.findIn K (.ref (He.ga K "GetRow")) "__init__") (some (some (.ref (He.fAd K ("GetRow", some "__init__"))))),
  fun K => PySem.W.isFn K (.ref (He.fAd K ("GetRow", some "__init__"))),
  fun K => PySem.W.keepIn K (.ref (He.fAd K ("GetRow", some "__init__"))),
  fun K => He.eqO (PySem.W.findIn K (.ref (He.ga K "GetRow")) "told") (some (some (.ref (He.fAd K ("GetRow", some "told"))))),
  fun K => PySem.W.isFn K (.ref (He.fAd K ("GetRow", some "told"))),
  fun K => PySem.W.keepIn K (.ref (He.fAd K ("GetRow", some "told"))),
  fun K => He.eqO (PySem.W.findIn K (.ref (He.ga K "PutRow")) "__init__") (some (some (.ref (He.fAd K ("PutRow", some "__init__"))))),
  fun K => PySem.W.isFn K (.ref (He.fAd K ("PutRow", some "__init__"))),
  fun K => PySem.W.keepIn K (.ref (He.fAd K ("PutRow", some "__init__"))),
  fun K => He.eqO (PySem.W.findIn K (.ref (He.ga K "PutRow")) "told") (some (some (.ref (He.fAd K ("PutRow", some "told"))))),
  fun K => PySem.W.isFn K (.ref (He.fAd K ("PutRow", some "told"))),
  fun K => PySem.W.keepIn K (.ref (He.fAd K ("PutRow", some "told"))),
  fun K => He.eqO (PySem.W.findIn K (.ref (He.ga K "HasRow")) "__init__") (some (some (.ref (He.fAd K ("HasRow", some "__init__"))))),
  fun K => PySem.W.isFn K (.ref (He.fAd K ("HasRow", some "__init__"))),
  fun K => PySem.W.keepIn K (.ref (He.fAd K ("HasRow", some "__init__"))),
  fun K => He.eqO (PySem.W.findIn K (.ref (He.ga K "HasRow")) "told") (some (some (.ref (He.fAd K ("HasRow", some "told"))))),
  fun K => PySem.W.isFn K (.ref (He.fAd K ("HasRow", some "told"))),
  fun K => PySem.W.keepIn K (.ref (He.fAd K ("HasRow", some "told"))),
  fun K => He.eqO (PySem.W.findIn K (.ref (He.ga K "DropRow")) "__init__") (some (some (.ref (He.fAd K ("DropRow", some "__init__"))))),
  fun K => PySem.W.isFn K (.ref (He.fAd K ("DropRow", some "__init__"))),
  fun K => PySem.W.keepIn K (.ref (He.fAd K ("DropRow", some "__init__"))),
  fun K => He.eqO (PySem.W.findIn K (.ref (He.ga K "DropRow")) "told") (some (some (.ref (He.fAd K ("DropRow", some "told"))))),
  fun K => PySem.W.isFn K (.ref (He.fAd K ("DropRow", some "told"))),
  fun K => PySem.W.keepIn K (.ref (He.fAd K ("DropRow", some "told")))]
def hf12 : List (PySem.W.Frag → Bool) := [fun K => He.eqO (PySem.W.findIn K (.ref (He.ga K "LendRow")) "__init__") (some (some (.ref (He.fAd K ("LendRow", some "__init__"))))),
  fun K => PySem.W.isFn K (.ref (He.fAd K ("LendRow", some "__init__"))),
  fun K => PySem.W.keepIn K (.ref (He.fAd K ("LendRow", some "__init__"))),
  fun K => He.eqO (PySem.W.findIn K (.ref (He.ga K "LendRow")) "told") (some (some (.ref (He.fAd K ("LendRow", some "told"))))),
  fun K => PySem.W.isFn K (.ref (He.fAd K ("LendRow", some "told"))),
  fun K => PySem.W.keepIn K (.ref (He.fAd K ("LendRow", some "told"))),
  fun K => He.eqO (PySem.W.findIn K (.ref (He.ga K "StepRow")) "__init__") (some (some (.ref (He.fAd K ("StepRow", some "__init__"))))),
  fun K => PySem.W.isFn K (.ref (He.fAd K ("StepRow", some "__init__"))),
  fun K => PySem.W.keepIn K (.ref (He.fAd K ("StepRow", some "__init__"))),
  fun K => He.eqO (PySem.W.findIn K (.ref (He.ga K "StepRow")) "told") (some (some (.ref (He.fAd K ("StepRow", some "told"))))),
  fun K => PySem.W.isFn K (.ref (He.fAd K ("StepRow", some "told"))),
  fun K => PySem.W.keepIn K (.ref (He.fAd K ("StepRow", some "told"))),
  fun K => He.eqO (PySem.W.findIn K (.ref (He.ga K "CallRow")) "__init__") (some (some (.ref (He.fAd K ("CallRow", some "__init__"))))),
  fun K => PySem.W.isFn K (.ref (He.fAd K ("CallRow", some "__init__"))),
  fun K => PySem.W.keepIn K (.ref (He.fAd K ("CallRow", some "__init__"))),
  fun K => He.eqO (PySem.W.findIn K (.ref (He.ga K "CallRow")) "told") (some (some (.ref (He.fAd K ("CallRow", some "told"))))),
  fun K => PySem.W.isFn K (.ref (He.fAd K ("CallRow", some "told"))),
  fun K => PySem.W.keepIn K (.ref (He.fAd K ("CallRow", some "told"))),
  fun K => He.eqO (PySem.W.findIn K (.ref (He.ga K "BackRow")) "__init__") (some (some (.ref (He.fAd K ("BackRow", some "__init__"))))),
  fun K => PySem.W.isFn K (.ref (He.fAd K ("BackRow", some "__init__"))),
  fun K => PySem.W.keepIn K (.ref (He.fAd K ("BackRow", some "__init__"))),
  fun K => He.eqO (PySem.W.findIn K (.ref (He.ga K "BackRow")) "told") (some (some (.ref (He.fAd K ("BackRow", some "told"))))),
  fun K => PySem.W.isFn K (.ref (He.fAd K ("BackRow", some "told"))),
  fun K => PySem.W.keepIn K (.ref (He.fAd K ("BackRow", some "told"))),
  fun K => He.eqO (PySem.W.findIn K (.ref (He.ga K "AskRow")) "__init__") (some (some (.ref (He.fAd K ("AskRow", some "__init__")))))]
def hf13 : List (PySem.W.Frag → Bool) := [fun K => PySem.W.isFn K (.ref (He.fAd K ("AskRow", some "__init__"))),
  fun K => PySem.W.keepIn K (.ref (He.fAd K ("AskRow", some "__init__"))),
  fun K => He.eqO (PySem.W.findIn K (.ref (He.ga K "AskRow")) "told") (some (some (.ref (He.fAd K ("AskRow", some "told"))))),
  fun K => PySem.W.isFn K (.ref (He.fAd K ("AskRow", some "told"))),
  fun K => PySem.W.keepIn K (.ref (He.fAd K ("AskRow", some "told"))),
  fun K => He.eqO (PySem.W.findIn K (.ref (He.ga K "TellRow")) "__init__") (some (some (.ref (He.fAd K ("TellRow", some "__init__"))))),
  fun K => PySem.W.isFn K (.ref (He.fAd K ("TellRow", some "__init__"))),
  fun K => PySem.W.keepIn K (.ref (He.fAd K ("TellRow", some "__init__"))),
  fun K => He.eqO (PySem.W.findIn K (.ref (He.ga K "TellRow")) "told") (some (some (.ref (He.fAd K ("TellRow", some "told"))))),
  fun K => PySem.W.isFn K (.ref (He.fAd K ("TellRow", some "told"))),
  fun K => PySem.W.keepIn K (.ref (He.fAd K ("TellRow", some "told"))),
  fun K => He.eqO (PySem.W.findIn K (.ref (He.ga K "IfRow")) "__init__") (some (some (.ref (He.fAd K ("IfRow", some "__init__"))))),
  fun K => PySem.W.isFn K (.ref (He.fAd K ("IfRow", some "__init__"))),
  fun K => PySem.W.keepIn K (.ref (He.fAd K ("IfRow", some "__init__"))),
  fun K => He.eqO (PySem.W.findIn K (.ref (He.ga K "IfRow")) "told") (some (some (.ref (He.fAd K ("IfRow", some "told"))))),
  fun K => PySem.W.isFn K (.ref (He.fAd K ("IfRow", some "told"))),
  fun K => PySem.W.keepIn K (.ref (He.fAd K ("IfRow", some "told"))),
  fun K => He.eqO (PySem.W.findIn K (.ref (He.ga K "WhileRow")) "__init__") (some (some (.ref (He.fAd K ("WhileRow", some "__init__"))))),
  fun K => PySem.W.isFn K (.ref (He.fAd K ("WhileRow", some "__init__"))),
  fun K => PySem.W.keepIn K (.ref (He.fAd K ("WhileRow", some "__init__"))),
  fun K => He.eqO (PySem.W.findIn K (.ref (He.ga K "WhileRow")) "told") (some (some (.ref (He.fAd K ("WhileRow", some "told"))))),
  fun K => PySem.W.isFn K (.ref (He.fAd K ("WhileRow", some "told"))),
  fun K => PySem.W.keepIn K (.ref (He.fAd K ("WhileRow", some "told"))),
  fun K => He.eqO (PySem.W.findIn K (.ref (He.ga K "Record")) "__init__") (some (some (.ref (He.fAd K ("Record", some "__init__"))))),
  fun K => PySem.W.isFn K (.ref (He.fAd K ("Record", some "__init__")))]
def hf14 : List (PySem.W.Frag → Bool) := [fun K => PySem.W.keepIn K (.ref (He.fAd K ("Record", some "__init__"))),
  fun K => He.eqO (PySem.W.findIn K (.ref (He.ga K "Record")) "told") (some (some (.ref (He.fAd K ("Record", some "told"))))),
  fun K => PySem.W.isFn K (.ref (He.fAd K ("Record", some "told"))),
  fun K => PySem.W.keepIn K (.ref (He.fAd K ("Record", some "told"))),
  fun K => He.eqO (PySem.W.findIn K (.ref (He.ga K "Helper")) "__init__") (some (some (.ref (He.fAd K ("Helper", some "__init__"))))),
  fun K => PySem.W.isFn K (.ref (He.fAd K ("Helper", some "__init__"))),
  fun K => PySem.W.keepIn K (.ref (He.fAd K ("Helper", some "__init__"))),
  fun K => He.eqO (PySem.W.findIn K (.ref (He.ga K "Helper")) "told") (some (some (.ref (He.fAd K ("Helper", some "told"))))),
  fun K => PySem.W.isFn K (.ref (He.fAd K ("Helper", some "told"))),
  fun K => PySem.W.keepIn K (.ref (He.fAd K ("Helper", some "told"))),
  fun K => He.eqO (PySem.W.findIn K (.ref (He.ga K "Program")) "__init__") (some (some (.ref (He.fAd K ("Program", some "__init__"))))),
  fun K => PySem.W.isFn K (.ref (He.fAd K ("Program", some "__init__"))),
  fun K => PySem.W.keepIn K (.ref (He.fAd K ("Program", some "__init__"))),
  fun K => He.eqO (PySem.W.findIn K (.ref (He.ga K "Program")) "told") (some (some (.ref (He.fAd K ("Program", some "told"))))),
  fun K => PySem.W.isFn K (.ref (He.fAd K ("Program", some "told"))),
  fun K => PySem.W.keepIn K (.ref (He.fAd K ("Program", some "told"))),
  fun K => He.eqO (PySem.W.findIn K (.ref (He.ga K "SetRow")) "head") (some (some (.ref (He.fAd K ("SetRow", some "head"))))),
  fun K => PySem.W.isFn K (.ref (He.fAd K ("SetRow", some "head"))),
  fun K => PySem.W.keepIn K (.ref (He.fAd K ("SetRow", some "head"))),
  fun K => He.eqO (PySem.W.findIn K (.ref (He.ga K "MakeRow")) "head") (some (some (.ref (He.fAd K ("MakeRow", some "head"))))),
  fun K => PySem.W.isFn K (.ref (He.fAd K ("MakeRow", some "head"))),
  fun K => PySem.W.keepIn K (.ref (He.fAd K ("MakeRow", some "head"))),
  fun K => He.eqO (PySem.W.findIn K (.ref (He.ga K "HasRow")) "head") (some (some (.ref (He.fAd K ("HasRow", some "head"))))),
  fun K => PySem.W.isFn K (.ref (He.fAd K ("HasRow", some "head"))),
  fun K => PySem.W.keepIn K (.ref (He.fAd K ("HasRow", some "head")))]
def hf15 : List (PySem.W.Frag → Bool) := [fun K => He.eqO (PySem.W.findIn K (.ref (He.ga K "CallRow")) "head") (some (some (.ref (He.fAd K ("CallRow", some "head"))))),
  fun K => PySem.W.isFn K (.ref (He.fAd K ("CallRow", some "head"))),
  fun K => PySem.W.keepIn K (.ref (He.fAd K ("CallRow", some "head"))),
  fun K => He.eqO (PySem.W.findIn K (.ref (He.ga K "IfRow")) "head") (some (some (.ref (He.fAd K ("IfRow", some "head"))))),
  fun K => PySem.W.isFn K (.ref (He.fAd K ("IfRow", some "head"))),
  fun K => PySem.W.keepIn K (.ref (He.fAd K ("IfRow", some "head"))),
  fun K => He.eqO (PySem.W.findIn K (.ref (He.ga K "WhileRow")) "head") (some (some (.ref (He.fAd K ("WhileRow", some "head"))))),
  fun K => PySem.W.isFn K (.ref (He.fAd K ("WhileRow", some "head"))),
  fun K => PySem.W.keepIn K (.ref (He.fAd K ("WhileRow", some "head"))),
  fun K => He.eqO (PySem.W.nsIn K mainGlobals "all_told") (some (some (.ref (He.fAd K ("all_told", none))))),
  fun K => PySem.W.keepIn K (.ref (He.fAd K ("all_told", none))),
  fun K => He.eqO (PySem.W.nsIn K mainGlobals "rows_written") (some (some (.ref (He.fAd K ("rows_written", none))))),
  fun K => PySem.W.keepIn K (.ref (He.fAd K ("rows_written", none))),
  fun K => He.eqO (PySem.W.nsIn K mainGlobals "record_written") (some (some (.ref (He.fAd K ("record_written", none))))),
  fun K => PySem.W.keepIn K (.ref (He.fAd K ("record_written", none))),
  fun K => He.eqO (PySem.W.nsIn K mainGlobals "param_written") (some (some (.ref (He.fAd K ("param_written", none))))),
  fun K => PySem.W.keepIn K (.ref (He.fAd K ("param_written", none))),
  fun K => He.eqO (PySem.W.nsIn K mainGlobals "helper_written") (some (some (.ref (He.fAd K ("helper_written", none))))),
  fun K => PySem.W.keepIn K (.ref (He.fAd K ("helper_written", none))),
  fun K => He.eqO (PySem.W.nsIn K mainGlobals "written") (some (some (.ref (He.fAd K ("written", none))))),
  fun K => PySem.W.keepIn K (.ref (He.fAd K ("written", none))),
  fun K => He.eqO (PySem.W.nsIn K mainGlobals "_law_draw") (some (some (.ref (He.fAd K ("_law_draw", none))))),
  fun K => PySem.W.keepIn K (.ref (He.fAd K ("_law_draw", none))),
  fun K => He.eqO (PySem.W.nsIn K mainGlobals "_law_kept") (some (some (.ref (He.fAd K ("_law_kept", none))))),
  fun K => PySem.W.keepIn K (.ref (He.fAd K ("_law_kept", none)))]
def hf16 : List (PySem.W.Frag → Bool) := [fun K => He.eqO (PySem.W.nsIn K mainGlobals "_law_word") (some (some (.ref (He.fAd K ("_law_word", none))))),
  fun K => PySem.W.keepIn K (.ref (He.fAd K ("_law_word", none))),
  fun K => He.eqO (PySem.W.nsIn K mainGlobals "_law_name") (some (some (.ref (He.fAd K ("_law_name", none))))),
  fun K => PySem.W.keepIn K (.ref (He.fAd K ("_law_name", none))),
  fun K => He.eqO (PySem.W.nsIn K mainGlobals "_law_number") (some (some (.ref (He.fAd K ("_law_number", none))))),
  fun K => PySem.W.keepIn K (.ref (He.fAd K ("_law_number", none))),
  fun K => He.eqO (PySem.W.nsIn K mainGlobals "_law_atom") (some (some (.ref (He.fAd K ("_law_atom", none))))),
  fun K => PySem.W.keepIn K (.ref (He.fAd K ("_law_atom", none))),
  fun K => He.eqO (PySem.W.nsIn K mainGlobals "_law_path") (some (some (.ref (He.fAd K ("_law_path", none))))),
  fun K => PySem.W.keepIn K (.ref (He.fAd K ("_law_path", none))),
  fun K => He.eqO (PySem.W.nsIn K mainGlobals "_law_given") (some (some (.ref (He.fAd K ("_law_given", none))))),
  fun K => PySem.W.keepIn K (.ref (He.fAd K ("_law_given", none))),
  fun K => He.eqO (PySem.W.nsIn K mainGlobals "_law_plain") (some (some (.ref (He.fAd K ("_law_plain", none))))),
  fun K => PySem.W.keepIn K (.ref (He.fAd K ("_law_plain", none))),
  fun K => He.eqO (PySem.W.nsIn K mainGlobals "_law_rows") (some (some (.ref (He.fAd K ("_law_rows", none))))),
  fun K => PySem.W.keepIn K (.ref (He.fAd K ("_law_rows", none))),
  fun K => He.eqO (PySem.W.nsIn K mainGlobals "_law_kind") (some (some (.ref (He.fAd K ("_law_kind", none))))),
  fun K => PySem.W.keepIn K (.ref (He.fAd K ("_law_kind", none))),
  fun K => He.eqO (PySem.W.nsIn K mainGlobals "_law_param") (some (some (.ref (He.fAd K ("_law_param", none))))),
  fun K => PySem.W.keepIn K (.ref (He.fAd K ("_law_param", none))),
  fun K => He.eqO (PySem.W.nsIn K mainGlobals "_law_program") (some (some (.ref (He.fAd K ("_law_program", none))))),
  fun K => PySem.W.keepIn K (.ref (He.fAd K ("_law_program", none))),
  fun K => He.eqO (PySem.W.nsIn K mainGlobals "_law_box_row") (some (some (.ref (He.fAd K ("_law_box_row", none))))),
  fun K => PySem.W.keepIn K (.ref (He.fAd K ("_law_box_row", none))),
  fun K => He.eqO (PySem.W.nsIn K mainGlobals "_law_made") (some (some (.ref (He.fAd K ("_law_made", none)))))]
def hf17 : List (PySem.W.Frag → Bool) := [fun K => PySem.W.keepIn K (.ref (He.fAd K ("_law_made", none))),
  fun K => He.eqO (PySem.W.nsIn K mainGlobals "_law_made_program") (some (some (.ref (He.fAd K ("_law_made_program", none))))),
  fun K => PySem.W.keepIn K (.ref (He.fAd K ("_law_made_program", none))),
  fun K => He.eqO (PySem.W.nsIn K mainGlobals "_law_alike") (some (some (.ref (He.fAd K ("_law_alike", none))))),
  fun K => PySem.W.keepIn K (.ref (He.fAd K ("_law_alike", none))),
  fun K => He.eqO (PySem.W.nsIn K mainGlobals "_law_shown") (some (some (.ref (He.fAd K ("_law_shown", none))))),
  fun K => PySem.W.keepIn K (.ref (He.fAd K ("_law_shown", none))),
  fun K => He.eqO (PySem.W.nsIn K mainGlobals "_law_head") (some (some (.ref (He.fAd K ("_law_head", none))))),
  fun K => PySem.W.keepIn K (.ref (He.fAd K ("_law_head", none))),
  fun K => He.eqO (PySem.W.nsIn K mainGlobals "_law_lines") (some (some (.ref (He.fAd K ("_law_lines", none))))),
  fun K => PySem.W.keepIn K (.ref (He.fAd K ("_law_lines", none))),
  fun K => He.eqO (PySem.W.nsIn K mainGlobals "_law_text_lines") (some (some (.ref (He.fAd K ("_law_text_lines", none))))),
  fun K => PySem.W.keepIn K (.ref (He.fAd K ("_law_text_lines", none))),
  fun K => He.eqO (PySem.W.nsIn K mainGlobals "law") (some (some (.ref (He.fAd K ("law", none))))),
  fun K => PySem.W.keepIn K (.ref (He.fAd K ("law", none)))]
def hfs : List (PySem.W.Frag → Bool) := hf0 ++ hf1 ++ hf2 ++ hf3 ++ hf4 ++ hf5 ++ hf6 ++ hf7 ++ hf8 ++ hf9 ++ hf10 ++ hf11 ++ hf12 ++ hf13 ++ hf14 ++ hf15 ++ hf16 ++ hf17
def hd_shown : He.FnD := ⟨("shown", none), "shown", "shown", defArgs s_shown, defBody s_shown, defScope s_shown⟩
def hd_Row_head : He.FnD := ⟨("Row", some "head"), "head", "Row.head", defArgs s_Row_head, defBody s_Row_head, defScope s_Row_head⟩
def hd_SetRow_init : He.FnD := ⟨("SetRow", some "__init__"), "__init__", "SetRow.__init__", defArgs s_SetRow_init, defBody s_SetRow_init, defScope s_SetRow_init⟩
def hd_SetRow_told : He.FnD := ⟨("SetRow", some "told"), "told", "SetRow.told", defArgs s_SetRow_told, defBody s_SetRow_told, defScope s_SetRow_told⟩
def hd_MakeRow_init : He.FnD := ⟨("MakeRow", some "__init__"), "__init__", "MakeRow.__init__", defArgs s_MakeRow_init, defBody s_MakeRow_init, defScope s_MakeRow_init⟩
def hd_MakeRow_told : He.FnD := ⟨("MakeRow", some "told"), "told", "MakeRow.told", defArgs s_MakeRow_told, defBody s_MakeRow_told, defScope s_MakeRow_told⟩
def hd_NoneRow_init : He.FnD := ⟨("NoneRow", some "__init__"), "__init__", "NoneRow.__init__", defArgs s_NoneRow_init, defBody s_NoneRow_init, defScope s_NoneRow_init⟩
def hd_NoneRow_told : He.FnD := ⟨("NoneRow", some "told"), "told", "NoneRow.told", defArgs s_NoneRow_told, defBody s_NoneRow_told, defScope s_NoneRow_told⟩
def hd_GiveRow_init : He.FnD := ⟨("GiveRow", some "__init__"), "__init__", "GiveRow.__init__", defArgs s_GiveRow_init, defBody s_GiveRow_init, defScope s_GiveRow_init⟩
def hd_GiveRow_told : He.FnD := ⟨("GiveRow", some "told"), "told", "GiveRow.told", defArgs s_GiveRow_told, defBody s_GiveRow_told, defScope s_GiveRow_told⟩
def hd_TakeRow_init : He.FnD := ⟨("TakeRow", some "__init__"), "__init__", "TakeRow.__init__", defArgs s_TakeRow_init, defBody s_TakeRow_init, defScope s_TakeRow_init⟩
def hd_TakeRow_told : He.FnD := ⟨("TakeRow", some "told"), "told", "TakeRow.told", defArgs s_TakeRow_told, defBody s_TakeRow_told, defScope s_TakeRow_told⟩
def hd_FillRow_init : He.FnD := ⟨("FillRow", some "__init__"), "__init__", "FillRow.__init__", defArgs s_FillRow_init, defBody s_FillRow_init, defScope s_FillRow_init⟩
def hd_FillRow_told : He.FnD := ⟨("FillRow", some "told"), "told", "FillRow.told", defArgs s_FillRow_told, defBody s_FillRow_told, defScope s_FillRow_told⟩
def hd_SwapRow_init : He.FnD := ⟨("SwapRow", some "__init__"), "__init__", "SwapRow.__init__", defArgs s_SwapRow_init, defBody s_SwapRow_init, defScope s_SwapRow_init⟩
def hd_SwapRow_told : He.FnD := ⟨("SwapRow", some "told"), "told", "SwapRow.told", defArgs s_SwapRow_told, defBody s_SwapRow_told, defScope s_SwapRow_told⟩
def hd_GetRow_init : He.FnD := ⟨("GetRow", some "__init__"), "__init__", "GetRow.__init__", defArgs s_GetRow_init, defBody s_GetRow_init, defScope s_GetRow_init⟩
def hd_GetRow_told : He.FnD := ⟨("GetRow", some "told"), "told", "GetRow.told", defArgs s_GetRow_told, defBody s_GetRow_told, defScope s_GetRow_told⟩
def hd_PutRow_init : He.FnD := ⟨("PutRow", some "__init__"), "__init__", "PutRow.__init__", defArgs s_PutRow_init, defBody s_PutRow_init, defScope s_PutRow_init⟩
def hd_PutRow_told : He.FnD := ⟨("PutRow", some "told"), "told", "PutRow.told", defArgs s_PutRow_told, defBody s_PutRow_told, defScope s_PutRow_told⟩
def hd_HasRow_init : He.FnD := ⟨("HasRow", some "__init__"), "__init__", "HasRow.__init__", defArgs s_HasRow_init, defBody s_HasRow_init, defScope s_HasRow_init⟩
def hd_HasRow_told : He.FnD := ⟨("HasRow", some "told"), "told", "HasRow.told", defArgs s_HasRow_told, defBody s_HasRow_told, defScope s_HasRow_told⟩
def hd_DropRow_init : He.FnD := ⟨("DropRow", some "__init__"), "__init__", "DropRow.__init__", defArgs s_DropRow_init, defBody s_DropRow_init, defScope s_DropRow_init⟩
def hd_DropRow_told : He.FnD := ⟨("DropRow", some "told"), "told", "DropRow.told", defArgs s_DropRow_told, defBody s_DropRow_told, defScope s_DropRow_told⟩
def hd_LendRow_init : He.FnD := ⟨("LendRow", some "__init__"), "__init__", "LendRow.__init__", defArgs s_LendRow_init, defBody s_LendRow_init, defScope s_LendRow_init⟩
def hd_LendRow_told : He.FnD := ⟨("LendRow", some "told"), "told", "LendRow.told", defArgs s_LendRow_told, defBody s_LendRow_told, defScope s_LendRow_told⟩
def hd_StepRow_init : He.FnD := ⟨("StepRow", some "__init__"), "__init__", "StepRow.__init__", defArgs s_StepRow_init, defBody s_StepRow_init, defScope s_StepRow_init⟩
def hd_StepRow_told : He.FnD := ⟨("StepRow", some "told"), "told", "StepRow.told", defArgs s_StepRow_told, defBody s_StepRow_told, defScope s_StepRow_told⟩
def hd_CallRow_init : He.FnD := ⟨("CallRow", some "__init__"), "__init__", "CallRow.__init__", defArgs s_CallRow_init, defBody s_CallRow_init, defScope s_CallRow_init⟩
def hd_CallRow_told : He.FnD := ⟨("CallRow", some "told"), "told", "CallRow.told", defArgs s_CallRow_told, defBody s_CallRow_told, defScope s_CallRow_told⟩
def hd_BackRow_init : He.FnD := ⟨("BackRow", some "__init__"), "__init__", "BackRow.__init__", defArgs s_BackRow_init, defBody s_BackRow_init, defScope s_BackRow_init⟩
def hd_BackRow_told : He.FnD := ⟨("BackRow", some "told"), "told", "BackRow.told", defArgs s_BackRow_told, defBody s_BackRow_told, defScope s_BackRow_told⟩
def hd_AskRow_init : He.FnD := ⟨("AskRow", some "__init__"), "__init__", "AskRow.__init__", defArgs s_AskRow_init, defBody s_AskRow_init, defScope s_AskRow_init⟩
def hd_AskRow_told : He.FnD := ⟨("AskRow", some "told"), "told", "AskRow.told", defArgs s_AskRow_told, defBody s_AskRow_told, defScope s_AskRow_told⟩
def hd_TellRow_init : He.FnD := ⟨("TellRow", some "__init__"), "__init__", "TellRow.__init__", defArgs s_TellRow_init, defBody s_TellRow_init, defScope s_TellRow_init⟩
def hd_TellRow_told : He.FnD := ⟨("TellRow", some "told"), "told", "TellRow.told", defArgs s_TellRow_told, defBody s_TellRow_told, defScope s_TellRow_told⟩
def hd_IfRow_init : He.FnD := ⟨("IfRow", some "__init__"), "__init__", "IfRow.__init__", defArgs s_IfRow_init, defBody s_IfRow_init, defScope s_IfRow_init⟩
def hd_IfRow_told : He.FnD := ⟨("IfRow", some "told"), "told", "IfRow.told", defArgs s_IfRow_told, defBody s_IfRow_told, defScope s_IfRow_told⟩
def hd_WhileRow_init : He.FnD := ⟨("WhileRow", some "__init__"), "__init__", "WhileRow.__init__", defArgs s_WhileRow_init, defBody s_WhileRow_init, defScope s_WhileRow_init⟩
def hd_WhileRow_told : He.FnD := ⟨("WhileRow", some "told"), "told", "WhileRow.told", defArgs s_WhileRow_told, defBody s_WhileRow_told, defScope s_WhileRow_told⟩
def hd_Record_init : He.FnD := ⟨("Record", some "__init__"), "__init__", "Record.__init__", defArgs s_Record_init, defBody s_Record_init, defScope s_Record_init⟩
def hd_Record_told : He.FnD := ⟨("Record", some "told"), "told", "Record.told", defArgs s_Record_told, defBody s_Record_told, defScope s_Record_told⟩
def hd_Helper_init : He.FnD := ⟨("Helper", some "__init__"), "__init__", "Helper.__init__", defArgs s_Helper_init, defBody s_Helper_init, defScope s_Helper_init⟩
def hd_Helper_told : He.FnD := ⟨("Helper", some "told"), "told", "Helper.told", defArgs s_Helper_told, defBody s_Helper_told, defScope s_Helper_told⟩
def hd_Program_init : He.FnD := ⟨("Program", some "__init__"), "__init__", "Program.__init__", defArgs s_Program_init, defBody s_Program_init, defScope s_Program_init⟩
def hd_Program_told : He.FnD := ⟨("Program", some "told"), "told", "Program.told", defArgs s_Program_told, defBody s_Program_told, defScope s_Program_told⟩
def hd_SetRow_head : He.FnD := ⟨("SetRow", some "head"), "head", "SetRow.head", defArgs s_SetRow_head, defBody s_SetRow_head, defScope s_SetRow_head⟩
def hd_MakeRow_head : He.FnD := ⟨("MakeRow", some "head"), "head", "MakeRow.head", defArgs s_MakeRow_head, defBody s_MakeRow_head, defScope s_MakeRow_head⟩
def hd_HasRow_head : He.FnD := ⟨("HasRow", some "head"), "head", "HasRow.head", defArgs s_HasRow_head, defBody s_HasRow_head, defScope s_HasRow_head⟩
def hd_CallRow_head : He.FnD := ⟨("CallRow", some "head"), "head", "CallRow.head", defArgs s_CallRow_head, defBody s_CallRow_head, defScope s_CallRow_head⟩
def hd_IfRow_head : He.FnD := ⟨("IfRow", some "head"), "head", "IfRow.head", defArgs s_IfRow_head, defBody s_IfRow_head, defScope s_IfRow_head⟩
def hd_WhileRow_head : He.FnD := ⟨("WhileRow", some "head"), "head", "WhileRow.head", defArgs s_WhileRow_head, defBody s_WhileRow_head, defScope s_WhileRow_head⟩
def hd_all_told : He.FnD := ⟨("all_told", none), "all_told", "all_told", defArgs s_all_told, defBody s_all_told, defScope s_all_told⟩
def hd_rows_written : He.FnD := ⟨("rows_written", none), "rows_written", "rows_written", defArgs s_rows_written, defBody s_rows_written, defScope s_rows_written⟩
def hd_record_written : He.FnD := ⟨("record_written", none), "record_written", "record_written", defArgs s_record_written, defBody s_record_written, defScope s_record_written⟩
def hd_param_written : He.FnD := ⟨("param_written", none), "param_written", "param_written", defArgs s_param_written, defBody s_param_written, defScope s_param_written⟩
def hd_helper_written : He.FnD := ⟨("helper_written", none), "helper_written", "helper_written", defArgs s_helper_written, defBody s_helper_written, defScope s_helper_written⟩
def hd_written : He.FnD := ⟨("written", none), "written", "written", defArgs s_written, defBody s_written, defScope s_written⟩
def hd_l_draw : He.FnD := ⟨("_law_draw", none), "_law_draw", "_law_draw", defArgs s_l_draw, defBody s_l_draw, defScope s_l_draw⟩
def hd_l_kept : He.FnD := ⟨("_law_kept", none), "_law_kept", "_law_kept", defArgs s_l_kept, defBody s_l_kept, defScope s_l_kept⟩
def hd_l_word : He.FnD := ⟨("_law_word", none), "_law_word", "_law_word", defArgs s_l_word, defBody s_l_word, defScope s_l_word⟩
def hd_l_name : He.FnD := ⟨("_law_name", none), "_law_name", "_law_name", defArgs s_l_name, defBody s_l_name, defScope s_l_name⟩
def hd_l_number : He.FnD := ⟨("_law_number", none), "_law_number", "_law_number", defArgs s_l_number, defBody s_l_number, defScope s_l_number⟩
def hd_l_atom : He.FnD := ⟨("_law_atom", none), "_law_atom", "_law_atom", defArgs s_l_atom, defBody s_l_atom, defScope s_l_atom⟩
def hd_l_path : He.FnD := ⟨("_law_path", none), "_law_path", "_law_path", defArgs s_l_path, defBody s_l_path, defScope s_l_path⟩
def hd_l_given : He.FnD := ⟨("_law_given", none), "_law_given", "_law_given", defArgs s_l_given, defBody s_l_given, defScope s_l_given⟩
def hd_l_plain : He.FnD := ⟨("_law_plain", none), "_law_plain", "_law_plain", defArgs s_l_plain, defBody s_l_plain, defScope s_l_plain⟩
def hd_l_rows : He.FnD := ⟨("_law_rows", none), "_law_rows", "_law_rows", defArgs s_l_rows, defBody s_l_rows, defScope s_l_rows⟩
def hd_l_kind : He.FnD := ⟨("_law_kind", none), "_law_kind", "_law_kind", defArgs s_l_kind, defBody s_l_kind, defScope s_l_kind⟩
def hd_l_param : He.FnD := ⟨("_law_param", none), "_law_param", "_law_param", defArgs s_l_param, defBody s_l_param, defScope s_l_param⟩
def hd_l_program : He.FnD := ⟨("_law_program", none), "_law_program", "_law_program", defArgs s_l_program, defBody s_l_program, defScope s_l_program⟩
def hd_l_box_row : He.FnD := ⟨("_law_box_row", none), "_law_box_row", "_law_box_row", defArgs s_l_box_row, defBody s_l_box_row, defScope s_l_box_row⟩
def hd_l_made : He.FnD := ⟨("_law_made", none), "_law_made", "_law_made", defArgs s_l_made, defBody s_l_made, defScope s_l_made⟩
def hd_l_made_program : He.FnD := ⟨("_law_made_program", none), "_law_made_program", "_law_made_program", defArgs s_l_made_program, defBody s_l_made_program, defScope s_l_made_program⟩
def hd_l_alike : He.FnD := ⟨("_law_alike", none), "_law_alike", "_law_alike", defArgs s_l_alike, defBody s_l_alike, defScope s_l_alike⟩
def hd_l_shown : He.FnD := ⟨("_law_shown", none), "_law_shown", "_law_shown", defArgs s_l_shown, defBody s_l_shown, defScope s_l_shown⟩
def hd_l_head : He.FnD := ⟨("_law_head", none), "_law_head", "_law_head", defArgs s_l_head, defBody s_l_head, defScope s_l_head⟩
def hd_l_lines : He.FnD := ⟨("_law_lines", none), "_law_lines", "_law_lines", defArgs s_l_lines, defBody s_l_lines, defScope s_l_lines⟩
def hd_l_text_lines : He.FnD := ⟨("_law_text_lines", none), "_law_text_lines", "_law_text_lines", defArgs s_l_text_lines, defBody s_l_text_lines, defScope s_l_text_lines⟩
def hd_law : He.FnD := ⟨("law", none), "law", "law", defArgs s_law, defBody s_law, defScope s_law⟩
def hn0 : List He.FnD := [hd_shown, hd_Row_head, hd_SetRow_init, hd_SetRow_told, hd_MakeRow_init, hd_MakeRow_told, hd_NoneRow_init, hd_NoneRow_told, hd_GiveRow_init, hd_GiveRow_told, hd_TakeRow_init, hd_TakeRow_told, hd_FillRow_init, hd_FillRow_told, hd_SwapRow_init, hd_SwapRow_told, hd_GetRow_init, hd_GetRow_told, hd_PutRow_init, hd_PutRow_told, hd_HasRow_init, hd_HasRow_told, hd_DropRow_init, hd_DropRow_told, hd_LendRow_init]
def hn1 : List He.FnD := [hd_LendRow_told, hd_StepRow_init, hd_StepRow_told, hd_CallRow_init, hd_CallRow_told, hd_BackRow_init, hd_BackRow_told, hd_AskRow_init, hd_AskRow_told, hd_TellRow_init, hd_TellRow_told, hd_IfRow_init, hd_IfRow_told, hd_WhileRow_init, hd_WhileRow_told, hd_Record_init, hd_Record_told, hd_Helper_init, hd_Helper_told, hd_Program_init, hd_Program_told, hd_SetRow_head, hd_MakeRow_head, hd_HasRow_head, hd_CallRow_head]
def hn2 : List He.FnD := [hd_IfRow_head, hd_WhileRow_head, hd_all_told, hd_rows_written, hd_record_written, hd_param_written, hd_helper_written, hd_written, hd_l_draw, hd_l_kept, hd_l_word, hd_l_name, hd_l_number, hd_l_atom, hd_l_path, hd_l_given, hd_l_plain, hd_l_rows, hd_l_kind, hd_l_param, hd_l_program, hd_l_box_row, hd_l_made, hd_l_made_program, hd_l_alike]
def hn3 : List He.FnD := [hd_l_shown, hd_l_head, hd_l_lines, hd_l_text_lines, hd_law]
def hfn : List He.FnD := hn0 ++ hn1 ++ hn2 ++ hn3
abbrev Al : Type := Bool × List He.FnV
def obsK (K : PySem.W.Frag) : Al := ((hfs.all fun f => f K) && hfn.all fun d => (He.Fa.code d.at_ d.qual).ok K, hfn.map fun d => He.fnObs K d.at_)
def valK : Al := (true, hfn.map He.FnD.val)
def SaysK (K : PySem.W.Frag) : Prop := obsK K = valK
/-- the objects that an object names, but for itself -/
def refsN (a : Addr) (o : Obj) : List Addr := match o.data with
  | .dict es _ => es.toList.flatMap fun e => He.refV e.val
  | .func fd => He.refV fd.code ++ He.refV fd.defaults
  | .cls cd => cd.ns :: (cd.mro.flatMap He.refV).filter fun b => !Nat.beq a b
  | _ => []
/-- what they reach in n steps, step by step; nothing is looked for twice -/
def goesN (g : Addr → Option Obj) : Nat → List Addr → List Addr
  | 0, as => as
  | n + 1, as => as ++ goesN g n (as.flatMap fun a => match g a with
    | some o => refsN a o
    | none => [])
def obsH (g : Addr → Option Obj) : Al := obsK (He.frG g (goesN g 4 [mainGlobals]))
def hk : PySem.W.Hook where
  α := Al
  obs := fun s => obsH s.heap.get?
  val := fun _ => valK
  says := fun _ h => ∃ K : PySem.W.Frag, K.In h ∧ SaysK K
  of := fun _ _ e => ⟨_, He.frG_in, e⟩
  keeps := fun _ _ _ ⟨K, hK, c⟩ k => ⟨K, PySem.W.Frag.In.keeps hK k, c⟩
theorem obsH_eq {g : Addr → Option Obj} {s : Shared} (h : ∀ a, g a = s.heap.get? a) : obsH g = hk.obs s := by
  have e : g = s.heap.get? := funext h
  rw [e] <;> rfl
def ob (s : PySem.W.SharedT) : Al := obsH (HandSHeadRun.getT s)
theorem ob_eq (s : PySem.W.SharedT) : ob s = hk.obs s.abs := obsH_eq (HandSHeadRun.getT_eq s)
theorem allApp {α : Type} {f : α → Bool} {l m : List α} (h : (l ++ m).all f = true) : l.all f = true ∧ m.all f = true := by
  rw [List.all_append] at h
  exact Bool.and_eq_true_iff.mp h
theorem saysF {K : PySem.W.Frag} (c : SaysK K) : hfs.all (fun f => f K) = true :=
  (He.ba (show ((hfs.all fun f => f K) && hfn.all fun d => (He.Fa.code d.at_ d.qual).ok K) = true from congrArg (fun z : Al => z.1) c)).1
theorem saysD {K : PySem.W.Frag} (c : SaysK K) {d : He.FnD} (hd : d ∈ hfn) :
    ∃ oc od osl kV doc pm an cdv ct, K.lookup (He.fAd K d.at_) = some ⟨oc, od, .func (PySem.W.fnOf d.name d.qual d.params d.body d.scope .none kV doc pm an cdv ct), osl⟩ ∧ PySem.W.codeIn K cdv d.qual = true := by
  have c2 := (He.ba (show ((hfs.all fun f => f K) && hfn.all fun d => (He.Fa.code d.at_ d.qual).ok K) = true from congrArg (fun z : Al => z.1) c)).2
  have e : hfn.map (fun d => He.fnObs K d.at_) = hfn.map He.FnD.val := congrArg (fun z : Al => z.2) c
  obtain ⟨i, hi⟩ := List.mem_iff_getElem?.mp hd
  have e2 : (hfn.map fun d => He.fnObs K d.at_)[i]? = (hfn.map He.FnD.val)[i]? := by rw [e]
  rw [List.getElem?_map, List.getElem?_map, hi] at e2
  exact He.fn_ok (Option.some.inj e2) (List.all_eq_true.mp c2 d hd)
theorem hfat0 {K : PySem.W.Frag} (c : SaysK K) : hf0.all (fun f => f K) = true := by
  have z := saysF c
  unfold hfs at z
  have z := (allApp z).1
  have z := (allApp z).1
  have z := (allApp z).1
  have z := (allApp z).1
  have z := (allApp z).1
  have z := (allApp z).1
  have z := (allApp z).1
  have z := (allApp z).1
  have z := (allApp z).1
  have z := (allApp z).1
  have z := (allApp z).1
  have z := (allApp z).1
  have z := (allApp z).1
  have z := (allApp z).1
  have z := (allApp z).1
  have z := (allApp z).1
  have z := (allApp z).1
  exact z
theorem hfact0 {K : PySem.W.Frag} (c : SaysK K) (i : Nat) {f : PySem.W.Frag → Bool} (h : hf0[i]? = some f := by rfl) : f K = true := List.all_eq_true.mp (hfat0 c) f (List.mem_of_getElem? h)
theorem hfat1 {K : PySem.W.Frag} (c : SaysK K) : hf1.all (fun f => f K) = true := by
  have z := saysF c
  unfold hfs at z
  have z := (allApp z).1
  have z := (allApp z).1
  have z := (allApp z).1
  have z := (allApp z).1
  have z := (allApp z).1
  have z := (allApp z).1
  have z := (allApp z).1
  have z := (allApp z).1
  have z := (allApp z).1
  have z := (allApp z).1
  have z := (allApp z).1
  have z := (allApp z).1
  have z := (allApp z).1
  have z := (allApp z).1
  have z := (allApp z).1
  have z := (allApp z).1
  exact (allApp z).2
theorem hfact1 {K : PySem.W.Frag} (c : SaysK K) (i : Nat) {f : PySem.W.Frag → Bool} (h : hf1[i]? = some f := by rfl) : f K = true := List.all_eq_true.mp (hfat1 c) f (List.mem_of_getElem? h)
theorem hfat2 {K : PySem.W.Frag} (c : SaysK K) : hf2.all (fun f => f K) = true := by
  have z := saysF c
  unfold hfs at z
  have z := (allApp z).1
  have z := (allApp z).1
  have z := (allApp z).1
  have z := (allApp z).1
  have z := (allApp z).1
  have z := (allApp z).1
  have z := (allApp z).1
  have z := (allApp z).1
  have z := (allApp z).1
  have z := (allApp z).1
  have z := (allApp z).1
  have z := (allApp z).1
  have z := (allApp z).1
  have z := (allApp z).1
  have z := (allApp z).1
  exact (allApp z).2
theorem hfact2 {K : PySem.W.Frag} (c : SaysK K) (i : Nat) {f : PySem.W.Frag → Bool} (h : hf2[i]? = some f := by rfl) : f K = true := List.all_eq_true.mp (hfat2 c) f (List.mem_of_getElem? h)
theorem hfat3 {K : PySem.W.Frag} (c : SaysK K) : hf3.all (fun f => f K) = true := by
  have z := saysF c
  unfold hfs at z
  have z := (allApp z).1
  have z := (allApp z).1
  have z := (allApp z).1
  have z := (allApp z).1
  have z := (allApp z).1
  have z := (allApp z).1
  have z := (allApp z).1
  have z := (allApp z).1
  have z := (allApp z).1
  have z := (allApp z).1
  have z := (allApp z).1
  have z := (allApp z).1
  have z := (allApp z).1
  have z := (allApp z).1
  exact (allApp z).2
theorem hfact3 {K : PySem.W.Frag} (c : SaysK K) (i : Nat) {f : PySem.W.Frag → Bool} (h : hf3[i]? = some f := by rfl) : f K = true := List.all_eq_true.mp (hfat3 c) f (List.mem_of_getElem? h)
theorem hfat4 {K : PySem.W.Frag} (c : SaysK K) : hf4.all (fun f => f K) = true := by
  have z := saysF c
  unfold hfs at z
  have z := (allApp z).1
  have z := (allApp z).1
  have z := (allApp z).1
  have z := (allApp z).1
  have z := (allApp z).1
  have z := (allApp z).1
  have z := (allApp z).1
  have z := (allApp z).1
  have z := (allApp z).1
  have z := (allApp z).1
  have z := (allApp z).1
  have z := (allApp z).1
  have z := (allApp z).1
  exact (allApp z).2
theorem hfact4 {K : PySem.W.Frag} (c : SaysK K) (i : Nat) {f : PySem.W.Frag → Bool} (h : hf4[i]? = some f := by rfl) : f K = true := List.all_eq_true.mp (hfat4 c) f (List.mem_of_getElem? h)
theorem hfat5 {K : PySem.W.Frag} (c : SaysK K) : hf5.all (fun f => f K) = true := by
  have z := saysF c
  unfold hfs at z
  have z := (allApp z).1
  have z := (allApp z).1
  have z := (allApp z).1
  have z := (allApp z).1
  have z := (allApp z).1
  have z := (allApp z).1
  have z := (allApp z).1
  have z := (allApp z).1
  have z := (allApp z).1
  have z := (allApp z).1
  have z := (allApp z).1
  have z := (allApp z).1
  exact (allApp z).2
theorem hfact5 {K : PySem.W.Frag} (c : SaysK K) (i : Nat) {f : PySem.W.Frag → Bool} (h : hf5[i]? = some f := by rfl) : f K = true := List.all_eq_true.mp (hfat5 c) f (List.mem_of_getElem? h)
theorem hfat6 {K : PySem.W.Frag} (c : SaysK K) : hf6.all (fun f => f K) = true := by
  have z := saysF c
  unfold hfs at z
  have z := (allApp z).1
  have z := (allApp z).1
  have z := (allApp z).1
  have z := (allApp z).1
  have z := (allApp z).1
  have z := (allApp z).1
  have z := (allApp z).1
  have z := (allApp z).1
  have z := (allApp z).1
  have z := (allApp z).1
  have z := (allApp z).1
  exact (allApp z).2
theorem hfact6 {K : PySem.W.Frag} (c : SaysK K) (i : Nat) {f : PySem.W.Frag → Bool} (h : hf6[i]? = some f := by rfl) : f K = true := List.all_eq_true.mp (hfat6 c) f (List.mem_of_getElem? h)
theorem hfat7 {K : PySem.W.Frag} (c : SaysK K) : hf7.all (fun f => f K) = true := by
  have z := saysF c
  unfold hfs at z
  have z := (allApp z).1
  have z := (allApp z).1
  have z := (allApp z).1
  have z := (allApp z).1
  have z := (allApp z).1
  have z := (allApp z).1
  have z := (allApp z).1
  have z := (allApp z).1
  have z := (allApp z).1
  have z := (allApp z).1
  exact (allApp z).2
theorem hfact7 {K : PySem.W.Frag} (c : SaysK K) (i : Nat) {f : PySem.W.Frag → Bool} (h : hf7[i]? = some f := by rfl) : f K = true := List.all_eq_true.mp (hfat7 c) f (List.mem_of_getElem? h)
theorem hfat8 {K : PySem.W.Frag} (c : SaysK K) : hf8.all (fun f => f K) = true := by
  have z := saysF c
  unfold hfs at z
  have z := (allApp z).1
  have z := (allApp z).1
  have z := (allApp z).1
  have z := (allApp z).1
  have z := (allApp z).1
  have z := (allApp z).1
  have z := (allApp z).1
  have z := (allApp z).1
  have z := (allApp z).1
  exact (allApp z).2
theorem hfact8 {K : PySem.W.Frag} (c : SaysK K) (i : Nat) {f : PySem.W.Frag → Bool} (h : hf8[i]? = some f := by rfl) : f K = true := List.all_eq_true.mp (hfat8 c) f (List.mem_of_getElem? h)
theorem hfat9 {K : PySem.W.Frag} (c : SaysK K) : hf9.all (fun f => f K) = true := by
  have z := saysF c
  unfold hfs at z
  have z := (allApp z).1
  have z := (allApp z).1
  have z := (allApp z).1
  have z := (allApp z).1
  have z := (allApp z).1
  have z := (allApp z).1
  have z := (allApp z).1
  have z := (allApp z).1
  exact (allApp z).2
theorem hfact9 {K : PySem.W.Frag} (c : SaysK K) (i : Nat) {f : PySem.W.Frag → Bool} (h : hf9[i]? = some f := by rfl) : f K = true := List.all_eq_true.mp (hfat9 c) f (List.mem_of_getElem? h)
theorem hfat10 {K : PySem.W.Frag} (c : SaysK K) : hf10.all (fun f => f K) = true := by
  have z := saysF c
  unfold hfs at z
  have z := (allApp z).1
  have z := (allApp z).1
  have z := (allApp z).1
  have z := (allApp z).1
  have z := (allApp z).1
  have z := (allApp z).1
  have z := (allApp z).1
  exact (allApp z).2
theorem hfact10 {K : PySem.W.Frag} (c : SaysK K) (i : Nat) {f : PySem.W.Frag → Bool} (h : hf10[i]? = some f := by rfl) : f K = true := List.all_eq_true.mp (hfat10 c) f (List.mem_of_getElem? h)
theorem hfat11 {K : PySem.W.Frag} (c : SaysK K) : hf11.all (fun f => f K) = true := by
  have z := saysF c
  unfold hfs at z
  have z := (allApp z).1
  have z := (allApp z).1
  have z := (allApp z).1
  have z := (allApp z).1
  have z := (allApp z).1
  have z := (allApp z).1
  exact (allApp z).2
theorem hfact11 {K : PySem.W.Frag} (c : SaysK K) (i : Nat) {f : PySem.W.Frag → Bool} (h : hf11[i]? = some f := by rfl) : f K = true := List.all_eq_true.mp (hfat11 c) f (List.mem_of_getElem? h)
theorem hfat12 {K : PySem.W.Frag} (c : SaysK K) : hf12.all (fun f => f K) = true := by
  have z := saysF c
  unfold hfs at z
  have z := (allApp z).1
  have z := (allApp z).1
  have z := (allApp z).1
  have z := (allApp z).1
  have z := (allApp z).1
  exact (allApp z).2
theorem hfact12 {K : PySem.W.Frag} (c : SaysK K) (i : Nat) {f : PySem.W.Frag → Bool} (h : hf12[i]? = some f := by rfl) : f K = true := List.all_eq_true.mp (hfat12 c) f (List.mem_of_getElem? h)
theorem hfat13 {K : PySem.W.Frag} (c : SaysK K) : hf13.all (fun f => f K) = true := by
  have z := saysF c
  unfold hfs at z
  have z := (allApp z).1
  have z := (allApp z).1
  have z := (allApp z).1
  have z := (allApp z).1
  exact (allApp z).2
theorem hfact13 {K : PySem.W.Frag} (c : SaysK K) (i : Nat) {f : PySem.W.Frag → Bool} (h : hf13[i]? = some f := by rfl) : f K = true := List.all_eq_true.mp (hfat13 c) f (List.mem_of_getElem? h)
theorem hfat14 {K : PySem.W.Frag} (c : SaysK K) : hf14.all (fun f => f K) = true := by
  have z := saysF c
  unfold hfs at z
  have z := (allApp z).1
  have z := (allApp z).1
  have z := (allApp z).1
  exact (allApp z).2
theorem hfact14 {K : PySem.W.Frag} (c : SaysK K) (i : Nat) {f : PySem.W.Frag → Bool} (h : hf14[i]? = some f := by rfl) : f K = true := List.all_eq_true.mp (hfat14 c) f (List.mem_of_getElem? h)
theorem hfat15 {K : PySem.W.Frag} (c : SaysK K) : hf15.all (fun f => f K) = true := by
  have z := saysF c
  unfold hfs at z
  have z := (allApp z).1
  have z := (allApp z).1
  exact (allApp z).2
theorem hfact15 {K : PySem.W.Frag} (c : SaysK K) (i : Nat) {f : PySem.W.Frag → Bool} (h : hf15[i]? = some f := by rfl) : f K = true := List.all_eq_true.mp (hfat15 c) f (List.mem_of_getElem? h)
theorem hfat16 {K : PySem.W.Frag} (c : SaysK K) : hf16.all (fun f => f K) = true := by
  have z := saysF c
  unfold hfs at z
  have z := (allApp z).1
  exact (allApp z).2
theorem hfact16 {K : PySem.W.Frag} (c : SaysK K) (i : Nat) {f : PySem.W.Frag → Bool} (h : hf16[i]? = some f := by rfl) : f K = true := List.all_eq_true.mp (hfat16 c) f (List.mem_of_getElem? h)
theorem hfat17 {K : PySem.W.Frag} (c : SaysK K) : hf17.all (fun f => f K) = true := by
  have z := saysF c
  unfold hfs at z
  exact (allApp z).2
theorem hfact17 {K : PySem.W.Frag} (c : SaysK K) (i : Nat) {f : PySem.W.Frag → Bool} (h : hf17[i]? = some f := by rfl) : f K = true := List.all_eq_true.mp (hfat17 c) f (List.mem_of_getElem? h)
def nm0 : List PySem.Str := [(PySem.Str.ofString "_wall"), (PySem.Str.ofString "shown"), (PySem.Str.ofString "all_told"), (PySem.Str.ofString "Row"), (PySem.Str.ofString "SetRow"), (PySem.Str.ofString "MakeRow"), (PySem.Str.ofString "NoneRow"), (PySem.Str.ofString "GiveRow"), (PySem.Str.ofString "TakeRow"), (PySem.Str.ofString "FillRow"), (PySem.Str.ofString "SwapRow"), (PySem.Str.ofString "GetRow"), (PySem.Str.ofString "PutRow"), (PySem.Str.ofString "HasRow"), (PySem.Str.ofString "DropRow"), (PySem.Str.ofString "LendRow"), (PySem.Str.ofString "StepRow"), (PySem.Str.ofString "CallRow"), (PySem.Str.ofString "BackRow"), (PySem.Str.ofString "AskRow"), (PySem.Str.ofString "TellRow"), (PySem.Str.ofString "IfRow"), (PySem.Str.ofString "WhileRow"), (PySem.Str.ofString "rows_written"), (PySem.Str.ofString "record_written"), (PySem.Str.ofString "param_written"), (PySem.Str.ofString "helper_written"), (PySem.Str.ofString "written"), (PySem.Str.ofString "Record"), (PySem.Str.ofString "Helper"), (PySem.Str.ofString "Program"), (PySem.Str.ofString "_law_draw"), (PySem.Str.ofString "_law_kept"), (PySem.Str.ofString "_law_word"), (PySem.Str.ofString "_law_name")]
def nm1 : List PySem.Str := [(PySem.Str.ofString "_law_number"), (PySem.Str.ofString "_law_atom"), (PySem.Str.ofString "_law_path"), (PySem.Str.ofString "_law_given"), (PySem.Str.ofString "_law_plain"), (PySem.Str.ofString "_law_rows"), (PySem.Str.ofString "_law_kind"), (PySem.Str.ofString "_law_param"), (PySem.Str.ofString "_law_program"), (PySem.Str.ofString "_law_box_row"), (PySem.Str.ofString "_law_made"), (PySem.Str.ofString "_law_made_program"), (PySem.Str.ofString "_law_alike"), (PySem.Str.ofString "_law_shown"), (PySem.Str.ofString "_law_head"), (PySem.Str.ofString "_law_lines"), (PySem.Str.ofString "_law_text_lines")]
def nms : List PySem.Str := nm0 ++ nm1
abbrev R : PySem.W.OpenRow := PySem.W.OpenLaw.row PySem.Challenge.rw_holders_k04_written
abbrev qv : Program := PySem.W.view R.prog [56]
set_option maxHeartbeats 0 in
theorem run (w : World) : HandSHeadRun.RunEq R qv hk ob 20000 nms w := by
  intro os
  kernel_rfl
end My
section
open PySem PySem.W PySem.Calls PyProof.Rows
set_option maxRecDepth 100000 in
set_option maxHeartbeats 0 in
theorem skel_end (hfacts : ∀ (w : PySem.World) (K : PySem.W.Frag) (h : PySem.Heap) (mg : PySem.Str → Option PySem.Value) (fa : PySem.Addr), K.In h → h.Ns PySem.mainGlobals mg → mg ("law" : PySem.Str) = some (.ref fa) → My.SaysK K → ∃ fd : PySem.FuncData, (∀ (s : PySem.Shared) (v : PySem.Value), BindsTo s fd ⟨[v], []⟩ [(("_law_script" : PySem.Str), v)]) ∧ ∀ base : PySem.Heap, K.In base → base.Ns PySem.mainGlobals mg → L2.FnOk (PySem.W.OpenLaw.prog PySem.Challenge.rw_holders_k04_written) w K mg base L2.CX0 24 fa fd [("_law_script" : PySem.Str)] (My.spLaw K)) : PySem.Challenge.rw_holders_k04_written.Holds := by
  w_on; o_law
  refine HandSHeadRun.head_any (r := My.R) (q := My.qv) (H := My.hk) (ob := My.ob) (M := 20000) (loose := My.nms) (d := HandSHeadRun.topDef (OpenLaw.row PySem.Challenge.rw_holders_k04_written).prog 56) (kwd := []) My.ob_eq
    (by kernel_rfl) (fun s => by kernel_rfl) My.run (by kernel_rfl) (by kernel_rfl) (by kernel_rfl) (by rfl) (by first | assumption | decide +kernel) (by decide +kernel) ⟨rfl, rfl, rfl, rfl, rfl, by decide +kernel⟩ ?hw ?hc
  case hw => w_witness2
  case hc =>
    refine L2.walk_ofE (l := PySem.Challenge.rw_holders_k04_written) (n := 63) (k := 24) (x := "_law_script") (CX := L2.CX0) rfl (by decide) (by kernel_rfl) ⟨rfl, by decide, by decide⟩ ?F (fun _ _ _ _ z => z)
    intro w mg fa h Y G hmg0
    obtain ⟨K, KX, c⟩ := Y
    have hmg : mg ("law" : PySem.Str) = some (.ref fa) := by
      have e : (HandSHeadRun.topDef (OpenLaw.row PySem.Challenge.rw_holders_k04_written).prog 56).name = ("law" : PySem.Str) := by kernel_rfl
      rw [← e]
      exact hmg0
    obtain ⟨fd, hb, hF⟩ := hfacts w K _ _ _ KX G hmg c
    exact ⟨K, fd, My.spLaw K, KX, hb, fun H a ns hl _ hS => ⟨a, ns, rfl, hS, hl, fun _ => rfl⟩, hF⟩
end
namespace My
open PySem L2
theorem cmR {i j : Int} (h0 : -1000000000000 < j) (h1 : j < 1000000000000) : CMul i j := by
  have e : (2 : Int) ^ 64 = 18446744073709551616 := by decide
  exact .inr ⟨by rw [e]; omega, by rw [e]; omega⟩
theorem cmL {i j : Int} (h0 : -1000000000000 < i) (h1 : i < 1000000000000) : CMul i j := by
  have e : (2 : Int) ^ 64 = 18446744073709551616 := by decide
  exact .inl ⟨by rw [e]; omega, by rw [e]; omega⟩
theorem dvW {i j : Int} (h0 : 0 < j) (h1 : j < 1000000000000) : CDivW i j := wide_div h0 (b := 40) (by
  have e : (2 : Nat) ^ 40 = 1099511627776 := by decide
  rw [e]
  omega) (by decide) (by decide)
theorem ints_at {ns : List Int} {k : Nat} {z : Int} (h : ns[k]? = some z) : atI (ns.map V.int) (k : Int) = some (.int z) := atI_nat (by rw [List.getElem?_map, h]; rfl)
/-! ### data that is compared -/
theorem dpInts {K : PySem.W.Frag} {H : Hp} : ∀ ns : List Int, DpAll K H (ns.map V.int) (ns.map PyData.int)
  | [] => .nil
  | n :: ns => .cons (.int n) (dpInts ns)
theorem dpIntL {K : PySem.W.Frag} {H : Hp} {a : Addr} {ns : List Int} (h : SqL K H a (ns.map V.int)) : Dp K H (.ref a) (.list (ns.map PyData.int)) := .lst h (dpInts ns)
theorem layInts : ∀ ns : List Int, PyData.canLayAll0 (ns.map PyData.int) = true
  | [] => by simp [PyData.canLayAll0]
  | n :: ns => by simp [PyData.canLayAll0, PyData.canLay0, layInts ns]
theorem deepInts : ∀ ns : List Int, PyData.depthAll (ns.map PyData.int) ≤ 1
  | [] => by simp [PyData.depthAll]
  | n :: ns => by
    have := deepInts ns
    simp only [List.map_cons, PyData.depthAll, PyData.depth]
    omega
theorem shapedOf {d : PyData} (h : d.canLay0 = true) (h2 : d.depth ≤ 64) : SeqAt.shaped d = true := by
  unfold SeqAt.shaped
  rw [h, decide_eq_true h2] <;> rfl
theorem shInts (ns : List Int) : SeqAt.shaped (.list (ns.map PyData.int)) = true := shapedOf (by simp only [PyData.canLay0]; exact layInts ns) (by
  have := deepInts ns
  simp only [PyData.depth]
  omega)
theorem eqvAllInts : ∀ ns ms : List Int, PyData.eqvAll (ns.map PyData.int) (ms.map PyData.int) = decide (ns = ms)
  | [], [] => by simp [PyData.eqvAll]
  | [], m :: ms => by simp [PyData.eqvAll]
  | n :: ns, [] => by simp [PyData.eqvAll]
  | n :: ns, m :: ms => by
    have e := eqvAllInts ns ms
    simp only [List.map_cons, PyData.eqvAll, PyData.eqv, e]
    by_cases h : n = m <;> by_cases h2 : ns = ms <;> simp [h, h2]
theorem eqvInts (ns ms : List Int) : PyData.eqv (.list (ns.map PyData.int)) (.list (ms.map PyData.int)) = decide (ns = ms) := by
  rw [PyData.eqv]
  exact eqvAllInts ns ms
/-! ### tests whose outcome is known, heaps that stay -/
theorem iteDF {c A B : Prop} [Decidable c] (hc : ¬ c) (h : B) : if decide c = true then A else B := by
  rw [decide_eq_false hc]
  exact iteF h
theorem iteDT {c A B : Prop} [Decidable c] (hc : c) (h : A) : if decide c = true then A else B := by
  rw [decide_eq_true hc]
  exact iteT h
theorem iteBF {b : Bool} {A B : Prop} (hb : b = false) (h : B) : if b = true then A else B := by
  subst hb
  exact iteF h
theorem iteBT {b : Bool} {A B : Prop} (hb : b = true) (h : A) : if b = true then A else B := by
  subst hb
  exact iteT h
theorem same_upd {H : Hp} {a : Addr} {o : HO} (h : H a = none) : Same H (upd H a o) := fun b u e => by
  rw [upd_ne (ne_of_none e h)]
  exact e
theorem same_updT {H H' : Hp} {a : Addr} {o : HO} (s : Same H H') (h : H a = none) : Same H (upd H' a o) := fun b u e => by
  rw [upd_ne (ne_of_none e h)]
  exact s b u e
theorem sameT {K : PySem.W.Frag} {H H' : Hp} {a : Addr} {xs : List V} (e : Same H H') (h : SqT K H a xs) : SqT K H' a xs := by
  rcases h with (h | ⟨o, h⟩) | h
  · exact .inl (.inl (e _ _ h))
  · exact .inl (.inr ⟨o, e _ _ h⟩)
  · exact .inr h
theorem cut_hi (xs : List V) (n : Nat) : cutV xs none (some (n : Int)) = xs.take n := by
  unfold cutV
  rw [HT.sIx_none, HT.sIx_nat, List.drop_zero, Nat.sub_zero, ← List.take_eq_take_min]
theorem cut_lo (xs : List V) (n : Nat) : cutV xs (some (n : Int)) none = xs.drop n := by
  unfold cutV
  rw [HT.sIx_none, HT.sIx_nat]
  by_cases h : n ≤ xs.length
  · rw [Nat.min_eq_left h, ← List.length_drop, List.take_length]
  · rw [Nat.min_eq_right (by omega), List.drop_eq_nil_of_le (by omega : xs.length ≤ xs.length), List.drop_eq_nil_of_le (by omega : xs.length ≤ n)]
    simp
theorem inInts (z : Int) (l : List Int) : inV (.int z) (l.map V.int) = decide (z ∈ l) := by
  unfold inV
  rw [List.any_map, Bool.eq_iff_iff]
  simp only [List.any_eq_true, Function.comp, eqV, beq_iff_eq, decide_eq_true_eq]
  exact ⟨fun ⟨x, h, e⟩ => e ▸ h, fun h => ⟨z, h, rfl⟩⟩
theorem flatInts (l : List Int) : (l.map V.int).all flatV = true := by
  rw [List.all_map, List.all_eq_true]
  intro _ _
  rfl
/-! ### rules that speak of the written part, with it by name (within comprehensions) -/
section
variable {X : Cx} {K : PySem.W.Frag}
theorem len_seqK (h : X.K = K) : CallR X (.builtin "len") (fun xs H Q => ∃ p ys, xs = [.ref p] ∧ (SqL K H p ys ∨ SqT K H p ys) ∧ Q (.int ys.length) H) := by
  subst h
  exact call_len_seq
theorem list_ofK (h : X.K = K) : CallR X (.type "list") (fun xs H Q => ∃ p ys, xs = [.ref p] ∧ (SqL K H p ys ∨ SqT K H p ys) ∧ ∀ l, H l = none → Q (.ref l) (upd H l (.lst ys))) := by
  subst h
  exact call_list_of
theorem tuple_ofK (h : X.K = K) : CallR X (.type "tuple") (fun xs H Q => ∃ p ys, xs = [.ref p] ∧ ((SqL K H p ys ∧ ∀ l, H l = none → Q (.ref l) (upd H l (.tup ys))) ∨ (SqT K H p ys ∧ Q (.ref p) H))) := by
  subst h
  exact call_tuple_of
theorem in_seqK (h : X.K = K) : OpR X (compareOp .In) (rIn K false) := by
  subst h
  exact op_in_seq
theorem notIn_seqK (h : X.K = K) : OpR X (compareOp .NotIn) (rIn K true) := by
  subst h
  exact op_notIn_seq
theorem eqDK (h : X.K = K) (hu : X.A.units + 64 < cLine) : OpR X (compareOp .Eq) (rEqD K) := by
  subst h
  exact op_eqD hu
theorem neDK (h : X.K = K) (hu : X.A.units + 64 < cLine) : OpR X (compareOp .NotEq) (rNeD K) := by
  subst h
  exact op_neD hu
theorem ix_listK (h : X.K = K) : IxR X (rIxL K) := by
  subst h
  exact ix_list
theorem ix_tupK (h : X.K = K) : IxR X (rIxT K) := by
  subst h
  exact ix_tup
end
section
variable {X : Cx} {K : PySem.W.Frag} {o e : Expr} {f : Str} {pos : Pos} {ta : TE} {tg : Expr}
theorem fldK (h : X.K = K) (he : PE X e ta) (hb : attributeBase e f X.env (eval e X.env) = eval e X.env) : PE X (.Attribute e f pos) (tFld K ta f) := by
  subst h
  exact pe_fld he hb
theorem sl_listK (h : X.K = K) : SlR X (rSlL K) := by
  subst h
  exact sl_list
theorem sl_tupAK (h : X.K = K) : SlR X (rSlA K) := by
  subst h
  exact sl_tupA
theorem catAK (h : X.K = K) : OpR X (binaryOp .Add) (rCatA K) := by
  subst h
  exact op_catA
theorem isiK (h : X.K = K) : CallR X (.builtin "isinstance") (rIsi K) := by
  subst h
  exact call_isi
theorem pi_tupK (h : X.K = K) (he : PE X e ta) : PI X tg e (iTup K ta) := by
  subst h
  exact pi_tup he
theorem pi_listK (h : X.K = K) (he : PE X e ta) : PI X tg e (iList K ta) := by
  subst h
  exact pi_list he
/-- one of two readings -/
def tAlt (t u : TE) : TE := fun σ H Q => t σ H Q ∨ u σ H Q
theorem peAlt {t u : TE} (h1 : PE X e t) (h2 : PE X e u) : PE X e (tAlt t u) :=
  ⟨fun pins s σ H Q I h => h.elim (h1.run pins s σ H Q I) (h2.run pins s σ H Q I)⟩
end
theorem putF_len {f : Str} {v : V} : ∀ fs : List (Str × V), (putF f v fs).length ≤ fs.length + 1
  | [] => Nat.le_refl _
  | (g, x) :: r => by
    show (if g = f then (g, v) :: r else (g, x) :: putF f v r).length ≤ _
    split
    · simp
    · have := putF_len (f := f) (v := v) r
      simp only [List.length_cons]
      omega
theorem same_made {H : Hp} {x dx C : Addr} {fs : List (Str × V)} (nx : H x = none) (nd : H dx = none) : Same H (upd (upd H dx (.own x)) x (.ins C dx fs)) := fun b o e => by
  rw [upd_ne (ne_of_none e nx), upd_ne (ne_of_none e nd)]
  exact e
/-- what stands, but one object -/
def SameBut (p : Addr) (H H' : Hp) : Prop := ∀ b o, H b = some o → b ≠ p → H' b = some o
theorem SameBut.made {H H2 : Hp} {x dx C : Addr} {fs : List (Str × V)} (s : SameBut x (upd (upd H dx (.own x)) x (.ins C dx fs)) H2) (nx : H x = none) (nd : H dx = none) : Same H H2 := fun b o e =>
  s b o (same_made nx nd b o e) (ne_of_none e nx)
local macro_rules | `(tactic| walk_at "flook") => `(tactic| (repeat (first | rw [lookup_putF, if_pos rfl] | rw [lookup_putF, if_neg (by decide +kernel)])))
theorem yes {σ : St} {H : Hp} {Q : Bool → Hp → Prop} (h : Q true H) : tYes σ H Q := h
theorem noPart {σ : St} {H : Hp} {Q : Option Int → Hp → Prop} (h : Q none H) : tNoPart σ H Q := h
/-! ### what stays -/
theorem fresh {H H' : Hp} {p : Addr} {o : HO} (hp : H p = none) (e : upd H p o = H') : Same H H' ∧ H' p = some o := by
  subst e
  exact ⟨same_upd hp, upd_same⟩
def still : HO → Prop
  | .tup _ => True
  | .ins _ _ _ => True
  | _ => False
/-- tuples and instances stay -/
def Keep (H H' : Hp) : Prop := ∀ b o, H b = some o → still o → H' b = some o
theorem Keep.of {H H' : Hp} (s : Same H H') : Keep H H' := fun b o e _ => s b o e
theorem Keep.but {H H' : Hp} {f : Addr} {kvs : List (Key × V)} (s : SameBut f H H') (hf : H f = some (.dK kvs)) : Keep H H' := fun b o e st => s b o e (by
  intro q
  subst q
  rw [hf] at e
  cases e
  exact st)
theorem Keep.butL {H H' : Hp} {f : Addr} {xs : List V} (s : SameBut f H H') (hf : H f = some (.lst xs)) : Keep H H' := fun b o e st => s b o e (by
  intro q
  subst q
  rw [hf] at e
  cases e
  exact st)
theorem Keep.trans {H H1 H2 : Hp} (a : Keep H H1) (b : Keep H1 H2) : Keep H H2 := fun p o e st => b p o (a p o e st) st
/-! ### readings, step by step: a word for each reading, and the tactic that applies them -/
/-- a new object -/
structure New (p : Addr) (o : HO) (H H' : Hp) : Prop where
  free : H p = none
  at_ : H' p = some o
  same : Same H H'
/-- one object changed -/
structure Chg (p : Addr) (o o' : HO) (H H' : Hp) : Prop where
  was : H p = some o
  at_ : H' p = some o'
  but : SameBut p H H'
def kd : HO → Nat
  | .lst _ => 0
  | .tup _ => 1
  | .dK _ => 2
  | .dT _ => 3
  | .ins _ _ _ => 4
  | _ => 9
section
variable {H H' H'' : Hp} {p q : Addr} {o u a b : HO}
theorem New.mk' (h : H p = none) : New p o H (upd H p o) := ⟨h, upd_same, same_upd h⟩
theorem Chg.mk' (h : H p = some o) : Chg p o u H (upd H p u) := ⟨h, upd_same, fun b x e n => by rw [upd_ne n]; exact e⟩
theorem New.get (n : New q u H H') (h : H p = some o) : H' p = some o := n.same _ _ h
theorem sameGet (n : Same H H') (h : H p = some o) : H' p = some o := n _ _ h
theorem Chg.get (c : Chg q a b H H') (h : H p = some o) (ne : p ≠ q) : H' p = some o := c.but _ _ h ne
theorem Chg.getK (c : Chg q a b H H') (h : H p = some o) (ne : (kd o == kd a) = false) : H' p = some o := c.but _ _ h (ne_of h c.was fun z => by
  subst z
  rw [beq_self_eq_true] at ne
  cases ne)
theorem sbutGet (n : SameBut q H H') (h : H p = some o) (ne : p ≠ q) : H' p = some o := n _ _ h ne
theorem keepGet (k : Keep H H') (h : H p = some o) (s : still o) : H' p = some o := k _ _ h s
theorem New.ne (n : New p o H H') (h : H q = some u) : p ≠ q := (ne_of_none h n.free).symm
theorem New.keep (n : New q u H H') : Keep H H' := Keep.of n.same
theorem Chg.keep (c : Chg q a b H H') (s : ¬ still a) : Keep H H' := fun x y e st => c.but x y e (fun z => by
  subst z
  have := c.was.symm.trans e
  cases this
  exact s st)
theorem Chg.keepL {xs : List V} (c : Chg q (.lst xs) b H H') : Keep H H' := c.keep (fun h => h)
theorem Chg.keepD {xs : List (L2.Key × V)} (c : Chg q (.dK xs) b H H') : Keep H H' := c.keep (fun h => h)
theorem Chg.keepE {xs : List (List L2.Key × V)} (c : Chg q (.dT xs) b H H') : Keep H H' := c.keep (fun h => h)
theorem keepStep (k : Keep H' H'') (l : Keep H H') : Keep H H'' := l.trans k
theorem sameStep (k : Same H' H'') (l : Same H H') : Same H H'' := l.trans k
/-- an object of one's own was changed: seen from ahead of its making nothing is -/
theorem Chg.sameOwn (c : Chg q a b H' H'') (l : Same H H') (f : H q = none) : Same H H'' := fun x y e => c.but _ _ (l _ _ e) (ne_of_none e f)
theorem butStep (k : Same H' H'') (l : SameBut p H H') : SameBut p H H'' := fun x y e n => k _ _ (l _ _ e n)
theorem Chg.butStep (c : Chg p a b H' H'') (l : SameBut p H H') : SameBut p H H'' := fun x y e n => c.but _ _ (l _ _ e n) n
theorem freeBack (h : H' p = none) (s : Same H H') : H p = none := s.free h
end
section
variable {K : PySem.W.Frag} {σ σ' : St} {H : Hp} {Q : VK}
theorem w_seq {t u : TS} {D : Ends} (h : t { D with nx := u D } σ H) : tSeq t u D σ H := h
theorem w_next {D : Ends} (h : D.nx σ H) : tNext D σ H := h
theorem w_nx {nx : St → Hp → Prop} {rt : V → Hp → Prop} {bk ct : St → Hp → Prop} (h : nx σ H) : Ends.nx ⟨nx, rt, bk, ct⟩ σ H := h
theorem w_rt {nx : St → Hp → Prop} {rt : V → Hp → Prop} {bk ct : St → Hp → Prop} {v : V} (h : rt v H) : Ends.rt ⟨nx, rt, bk, ct⟩ v H := h
theorem w_bk {nx : St → Hp → Prop} {rt : V → Hp → Prop} {bk ct : St → Hp → Prop} (h : bk σ H) : Ends.bk ⟨nx, rt, bk, ct⟩ σ H := h
theorem w_ct {nx : St → Hp → Prop} {rt : V → Hp → Prop} {bk ct : St → Hp → Prop} (h : ct σ H) : Ends.ct ⟨nx, rt, bk, ct⟩ σ H := h
theorem w_break {D : Ends} (h : D.bk σ H) : tBreak D σ H := h
theorem w_cont {D : Ends} (h : D.ct σ H) : tCont D σ H := h
theorem w_drop {te : TE} {D : Ends} (h : te σ H fun _ H1 => D.nx σ H1) : tDrop te D σ H := h
theorem w_ret {te : TE} {D : Ends} (h : te σ H D.rt) : tRet te D σ H := h
theorem w_retN {D : Ends} (h : D.rt .non H) : tRetN D σ H := h
theorem w_ifS {c : TT} {t u : TS} {D : Ends} (h : c σ H fun b H1 => if b = true then t D σ H1 else u D σ H1) : tIfS c t u D σ H := h
theorem w_if {c : TT} {t u : TE} (h : c σ H fun b H1 => if b = true then t σ H1 Q else u σ H1 Q) : tIf c t u σ H Q := h
theorem w_asg {te : TE} {g : TG} {D : Ends} (h : te σ H fun x H1 => g x σ H1 D.nx) : tAsg te g D σ H := h
theorem w_name {i : Nat} {v : V} {Q : St → Hp → Prop} (h : ∀ σ', σ.set i (some v) = σ' → Q σ' H) : gName i v σ H Q := h _ rfl
theorem w_var {i : Nat} {v : V} (e : σ[i]? = some (some v)) (h : Q v H) : tVar i σ H Q := ⟨v, e, h⟩
theorem w_C {v : V} (h : Q v H) : tC v σ H Q := h
theorem w_op {r : R2} {ta tb : TE} (h : ta σ H fun x H1 => tb σ H1 fun y H2 => r x y H2 Q) : tOp r ta tb σ H Q := h
theorem w_un {r : V → Hp → VK → Prop} {ta : TE} (h : ta σ H fun x H1 => r x H1 Q) : tUn r ta σ H Q := h
theorem w_rI0 {g : Int → Int → V} {i j : Int} (h : Q (g i j) H) : rI0 g (.int i) (.int j) H Q := ⟨i, j, rfl, rfl, h⟩
theorem w_rI {C : Int → Int → Prop} {g : Int → Int → V} {i j : Int} (c : C i j) (h : Q (g i j) H) : rI C g (.int i) (.int j) H Q := ⟨i, j, rfl, rfl, c, h⟩
theorem w_rU {g : Int → V} {i : Int} (h : Q (g i) H) : rU g (.int i) H Q := ⟨i, rfl, h⟩
theorem dec_vi {i j : Int} : decide (V.int i = V.int j) = decide (i = j) := by simp
theorem dec_vs {i j : Str} : decide (V.str i = V.str j) = decide (i = j) := by simp
theorem w_rEqI {i j : Int} (h : Q (.bl (decide (i = j))) H) : rEq (.int i) (.int j) H Q := ⟨rfl, by rw [dec_vi]; exact h⟩
theorem w_rNeI {i j : Int} (h : Q (.bl (!decide (i = j))) H) : rNe (.int i) (.int j) H Q := ⟨rfl, by rw [dec_vi]; exact h⟩
theorem w_rEqS {i j : Str} (h : Q (.bl (decide (i = j))) H) : rEq (.str i) (.str j) H Q := ⟨rfl, by rw [dec_vs]; exact h⟩
theorem w_rNeS {i j : Str} (h : Q (.bl (!decide (i = j))) H) : rNe (.str i) (.str j) H Q := ⟨rfl, by rw [dec_vs]; exact h⟩
theorem w_tB {t : TE} {Q : Bool → Hp → Prop} (h : t σ H fun x H1 => ∃ c, x = .bl c ∧ Q c H1) : tB t σ H Q := h
theorem w_test {t : TE} {Q : Bool → Hp → Prop} (h : t σ H fun x H1 => ∃ c, x = .bl c ∧ Q c H1) : tTest t σ H Q := h
theorem w_bl {b : Bool} {Q : Bool → Hp → Prop} (h : Q b H) : ∃ c, V.bl b = .bl c ∧ Q c H := ⟨b, rfl, h⟩
theorem w_blB {b : Bool} {P : Bool → Prop} (h : P b) : ∃ c, V.bl b = .bl c ∧ P c := ⟨b, rfl, h⟩
theorem w_and {t u : TT} {Q : Bool → Hp → Prop} (h : t σ H fun c H1 => if c = true then u σ H1 Q else Q false H1) : tAnd t u σ H Q := h
theorem w_or {t u : TT} {Q : Bool → Hp → Prop} (h : t σ H fun c H1 => if c = true then Q true H1 else u σ H1 Q) : tOr t u σ H Q := h
theorem w_not {t : TT} {Q : Bool → Hp → Prop} (h : t σ H fun c H1 => Q (!c) H1) : tNot t σ H Q := h
theorem w_andV {ta tb : TE} (h : ta σ H fun x H1 => ∃ c, x = .bl c ∧ if c = true then tb σ H1 Q else Q (.bl false) H1) : tAndV ta tb σ H Q := h
theorem w_orV {ta tb : TE} (h : ta σ H fun x H1 => ∃ c, x = .bl c ∧ if c = true then Q (.bl true) H1 else tb σ H1 Q) : tOrV ta tb σ H Q := h
theorem w_notV {ta : TE} (h : ta σ H fun x H1 => ∃ c, x = .bl c ∧ Q (.bl (!c)) H1) : tNotV ta σ H Q := h
theorem w_isN {ta : TE} (h : ta σ H fun x H1 => Q (.bl (decide (x = .non))) H1) : tIsN ta σ H Q := h
theorem w_notN {ta : TE} (h : ta σ H fun x H1 => Q (.bl (!decide (x = .non))) H1) : tNotN ta σ H Q := h
theorem w_nil {Q : List V → Hp → Prop} (h : Q [] H) : tNil σ H Q := h
theorem w_cons {ta : TE} {tr : TA} {Q : List V → Hp → Prop} (h : ta σ H fun x H1 => tr σ H1 fun xs H2 => Q (x :: xs) H2) : tCons ta tr σ H Q := h
theorem w_cb {r : List V → Hp → VK → Prop} {t : TA} (h : t σ H fun vs H1 => r vs H1 Q) : tCB r t σ H Q := h
theorem w_call {sp : Sp} {dvs : List V} {E : XK} {t : TA} (h : t σ H fun vs H1 => sp (vs ++ dvs) H1 Q E) : tCall sp dvs E t σ H Q := h
def kNew (f : List V → HO) (xs : List V) (H : Hp) (Q : VK) : Prop := xs.length ≤ sizeLine ∧ ∀ p, H p = none → Q (.ref p) (upd H p (f xs))
theorem w_tup {t : TA} (h : t σ H fun xs H1 => kNew .tup xs H1 Q) : tTup t σ H Q := h
theorem w_lst {t : TA} (h : t σ H fun xs H1 => kNew .lst xs H1 Q) : tLst t σ H Q := h
theorem w_newT {xs : List V} (hl : xs.length ≤ sizeLine) (h : ∀ p H', New p (.tup xs) H H' → Q (.ref p) H') : kNew .tup xs H Q := ⟨hl, fun p hp => h p _ (New.mk' hp)⟩
theorem w_newL {xs : List V} (hl : xs.length ≤ sizeLine) (h : ∀ p H', New p (.lst xs) H H' → Q (.ref p) H') : kNew .lst xs H Q := ⟨hl, fun p hp => h p _ (New.mk' hp)⟩
theorem w_ixT {p : Addr} {xs : List V} {i : Int} {v : V} (a : H p = some (.tup xs)) (e : atI xs i = some v) (h : Q v H) : rIxT K (.ref p) (.int i) H Q := ⟨p, xs, i, v, rfl, rfl, SqT.of a, e, h⟩
theorem w_ixL {p : Addr} {xs : List V} {i : Int} {v : V} (a : H p = some (.lst xs)) (e : atI xs i = some v) (h : Q v H) : rIxL K (.ref p) (.int i) H Q := ⟨p, xs, i, v, rfl, rfl, SqL.of a, e, h⟩
theorem w_lenL {p : Addr} {xs : List V} {P : List V → Prop} (a : H p = some (.lst xs)) (h : P xs) : ∃ p' ys, [V.ref p] = [.ref p'] ∧ (SqL K H p' ys ∨ SqT K H p' ys) ∧ P ys := ⟨p, xs, rfl, .inl (SqL.of a), h⟩
theorem w_lenT {p : Addr} {xs : List V} {P : List V → Prop} (a : H p = some (.tup xs)) (h : P xs) : ∃ p' ys, [V.ref p] = [.ref p'] ∧ (SqL K H p' ys ∨ SqT K H p' ys) ∧ P ys := ⟨p, xs, rfl, .inr (SqT.of a), h⟩
theorem w_bm {T : String} {r : V → List V → Hp → VK → Prop} {to : TE} {t : TA} (h : to σ H fun x H1 => tyV K T x H1 ∧ t σ H1 fun xs H2 => r x xs H2 Q) : tBM K T r to t σ H Q := h
theorem w_bm0 {T : String} {r : V → List V → Hp → VK → Prop} {to : TE} (h : to σ H fun x H1 => tyV K T x H1 ∧ r x [] H1 Q) : tBM0 K T r to σ H Q := h
theorem w_tyL {p : Addr} {xs : List V} {B : Prop} (a : H p = some (.lst xs)) (h : B) : tyV K "list" (.ref p) H ∧ B := ⟨.inl ⟨rfl, _, SqL.of a⟩, h⟩
theorem w_append {l : Addr} {xs : List V} {y : V} (a : H l = some (.lst xs)) (sz : xs.length < sizeLine) (h : ∀ H', Chg l (.lst xs) (.lst (xs ++ [y])) H H' → Q .non H') : rAppend (.ref l) [y] H Q := ⟨l, xs, y, rfl, rfl, a, sz, h _ (Chg.mk' a)⟩
theorem w_setL {l : Addr} {xs : List V} {k : Int} {j : Nat} {v : V} {Q : Hp → Prop} (a : H l = some (.lst xs)) (e : ixN xs.length k = some j) (h : ∀ H', Chg l (.lst xs) (.lst (xs.set j v)) H H' → Q H') : rSetL (.ref l) (.int k) v H Q := ⟨l, xs, k, j, rfl, rfl, a, e, h _ (Chg.mk' a)⟩
theorem w_fld {ta : TE} {f : Str} (h : ta σ H fun x H1 => ∃ a C dx fs v, x = .ref a ∧ H1 a = some (.ins C dx fs) ∧ Cls K C ∧ NoAttr K C f ∧ fs.lookup f = some v ∧ Q v H1) : tFld K ta f σ H Q := h
theorem w_fld1 {a C dx : Addr} {fs : List (Str × V)} {v : V} {f : Str} (i : H a = some (.ins C dx fs)) (c : Cls K C) (n : NoAttr K C f) (l : fs.lookup f = some v) (h : Q v H) : ∃ a' C' dx' fs' v', V.ref a = .ref a' ∧ H a' = some (.ins C' dx' fs') ∧ Cls K C' ∧ NoAttr K C' f ∧ fs'.lookup f = some v' ∧ Q v' H := ⟨a, C, dx, fs, v, rfl, i, c, n, l, h⟩
theorem w_par {i j : Nat} {ta : TA} {D : Ends} (h : ta σ H fun vs H1 => ∃ v w, vs = [v, w] ∧ D.nx ((σ.set i (some v)).set j (some w)) H1) : tPar i j ta D σ H := h
theorem w_par1 {v w : V} {P : V → V → Prop} (h : P v w) : ∃ v' w', [v, w] = [v', w'] ∧ P v' w' := ⟨v, w, rfl, h⟩
theorem w_aug {i : Nat} {x : V} {te : TE} {ti : TIp} {D : Ends} (e : σ[i]? = some (some x)) (h : te σ H fun y H1 => ti x y H1 fun z H2 => D.nx (σ.set i (some z)) H2) : tAug i te ti D σ H := ⟨x, e, h⟩
theorem w_forT {a : Addr} {xs : List V} {P : Addr → Prop} (t : H a = some (.tup xs)) (h : P a) : ∃ a', V.ref a = .ref a' ∧ (∃ xs, SqT K H a' xs) ∧ P a' := ⟨a, rfl, ⟨xs, SqT.of t⟩, h⟩
theorem w_forL {a : Addr} {xs : List V} {P : Addr → Prop} (t : H a = some (.lst xs)) (h : P a) : ∃ a', V.ref a = .ref a' ∧ (∃ xs, SqL K H a' xs) ∧ P a' := ⟨a, rfl, ⟨xs, SqL.of t⟩, h⟩
theorem w_inT {x : V} {p : Addr} {xs : List V} (a : H p = some (.tup xs)) (f : flatV x = true) (g : xs.all flatV = true) (h : Q (.bl (inV x xs)) H) : rIn K false x (.ref p) H Q := ⟨p, xs, rfl, .inr (SqT.of a), f, g, h⟩
theorem w_inL {x : V} {p : Addr} {xs : List V} (a : H p = some (.lst xs)) (f : flatV x = true) (g : xs.all flatV = true) (h : Q (.bl (inV x xs)) H) : rIn K false x (.ref p) H Q := ⟨p, xs, rfl, .inl (SqL.of a), f, g, h⟩
theorem w_iTup {tl : TE} {R : It → Hp → Prop} (h : tl σ H fun x H1 => ∃ a, x = .ref a ∧ (∃ xs, SqT K H1 a xs) ∧ R (Itt K a) H1) : iTup K tl σ H R := h
theorem w_iList {tl : TE} {R : It → Hp → Prop} (h : tl σ H fun x H1 => ∃ a, x = .ref a ∧ (∃ xs, SqL K H1 a xs) ∧ R (Itl K a) H1) : iList K tl σ H R := h
end
/-- a loop over what is walked -/
def kFor (J : It) (g : TG) (tb : TS) (D : Ends) (σ : St) (H : Hp) : Prop := tFor (fun _ H1 R => R J H1) g tb D σ H
theorem w_for {wi : TI} {g : TG} {tb : TS} {D : Ends} {σ : St} {H : Hp} (h : wi σ H fun J H1 => kFor J g tb D σ H1) : tFor wi g tb D σ H := h
section
variable {K : PySem.W.Frag} {a : Addr} {xs : List V} {g : TG} {tb : TS} {D : Ends} {σ : St} {H : Hp}
theorem k_forT (xs : List V) (Pv : Nat → St → Hp → Prop) (h0 : Pv 0 σ H) (hl : ∀ i σ H, i ≤ xs.length → Pv i σ H → SqT K H a xs)
    (hs : ∀ i x σ H, xs[i]? = some x → Pv i σ H → g x σ H fun σ2 H2 => tb { D with nx := Pv (i + 1), ct := Pv (i + 1), bk := D.nx } σ2 H2) (hd : ∀ σ H, Pv xs.length σ H → D.nx σ H) : kFor (Itt K a) g tb D σ H := for_tup Pv h0 hl hs hd
theorem k_forL (xs : List V) (Pv : Nat → St → Hp → Prop) (h0 : Pv 0 σ H) (hl : ∀ i σ H, i ≤ xs.length → Pv i σ H → SqL K H a xs)
    (hs : ∀ i x σ H, xs[i]? = some x → Pv i σ H → g x σ H fun σ2 H2 => tb { D with nx := Pv (i + 1), ct := Pv (i + 1), bk := D.nx } σ2 H2) (hd : ∀ σ H, Pv xs.length σ H → D.nx σ H) : kFor (Itl K a) g tb D σ H := for_list Pv h0 hl hs hd
theorem k_forR {lo : Int} {n : Nat} (Pv : Nat → St → Hp → Prop) (h0 : Pv 0 σ H)
    (hs : ∀ i σ H, i < n → Pv i σ H → g (.int (lo + i)) σ H fun σ2 H2 => tb { D with nx := Pv (i + 1), ct := Pv (i + 1), bk := D.nx } σ2 H2) (hd : ∀ σ H, Pv n σ H → D.nx σ H) : kFor (Itr lo n) g tb D σ H := for_range Pv h0 hs hd
end
section
variable {K : PySem.W.Frag} {σ σ' : St} {H : Hp} {Q : VK}
theorem pg_tupK {X : Cx} {es : List Expr} {k : Nat} {t : TGs} {n : Nat} {pos : Pos} (hK : X.K = K) (hc : X.calm = true) (h : PGs X es t)
    (hn : (assignEach es X.env).length = n := by rfl) (hst : (assignEach es X.env).findIdx? (·.1) = none := by rfl) : PG X (.Tuple es k pos) (gTup K n t) := by
  subst hK
  exact pg_tup hc h hn hst
theorem w_gTup {n : Nat} {t : TGs} {p : Addr} {xs : List V} {Q : St → Hp → Prop} (a : H p = some (.tup xs)) (e : xs.length = n) (h : t xs σ H Q) : gTup K n t (.ref p) σ H Q := ⟨p, xs, rfl, SqT.of a, e, h⟩
theorem w_gCons {t : TG} {u : TGs} {v : V} {r : List V} {Q : St → Hp → Prop} (h : t v σ H fun σ' H' => u r σ' H' Q) : gCons t u (v :: r) σ H Q := ⟨v, r, rfl, h⟩
theorem w_gNil {Q : St → Hp → Prop} (h : Q σ H) : gNil [] σ H Q := ⟨rfl, h⟩
/-- a list made of what is walked -/
def kLc (J : It) (g : TG) (tt : TT) (te : TE) (vs : List Nat) (σ : St) (H : Hp) (Q : VK) : Prop := tLc (fun _ H1 R => R J H1) g tt te vs σ H Q
theorem w_lc {wi : TI} {g : TG} {tt : TT} {te : TE} {vs : List Nat} (h : wi σ H fun J H1 => kLc J g tt te vs σ H1 Q) : tLc wi g tt te vs σ H Q := h
/-- the item that is made goes to the list -/
def kAcc (D : Addr) (y : V) (H : Hp) (P : Hp → Prop) : Prop := ∃ acc, H D = some (.lst acc) ∧ acc.length < sizeLine ∧ P (upd H D (.lst (acc ++ [y])))
theorem w_acc {D : Addr} {y : V} {P : Hp → Prop} {acc : List V} (a : H D = some (.lst acc)) (sz : acc.length < sizeLine) (h : ∀ H', Chg D (.lst acc) (.lst (acc ++ [y])) H H' → P H') : kAcc D y H P := ⟨acc, a, sz, h _ (Chg.mk' a)⟩
abbrev kTurn (g : TG) (tt : TT) (te : TE) (vs : List Nat) (σ : St) (D : Addr) (x : V) (H : Hp) (P : Hp → Prop) : Prop :=
  g x (wipe σ vs) H fun σ2 H2 => wipe σ2 vs = wipe σ vs ∧ tt σ2 H2 fun b H3 => if b = true then te σ2 H3 fun y H4 => kAcc D y H4 P else P H3
theorem k_lcR {lo : Int} {n : Nat} {g : TG} {tt : TT} {te : TE} {vs : List Nat} (Pv : Addr → Nat → Hp → Prop) (h0 : ∀ D H', New D (.lst []) H H' → Pv D 0 H')
    (hs : ∀ D, H D = none → ∀ i H2, i < n → Pv D i H2 → kTurn g tt te vs σ D (.int (lo + i)) H2 (Pv D (i + 1))) (hd : ∀ D, H D = none → ∀ H2, Pv D n H2 → Q (.ref D) H2) : kLc (Itr lo n) g tt te vs σ H Q :=
  fun D hD => lc_range (Pv D) (h0 D _ (New.mk' hD)) (hs D hD) (hd D hD)
theorem k_lcL {a : Addr} (xs : List V) {g : TG} {tt : TT} {te : TE} {vs : List Nat} (Pv : Addr → Nat → Hp → Prop) (h0 : ∀ D H', New D (.lst []) H H' → Pv D 0 H') (hl : ∀ D i H, i ≤ xs.length → Pv D i H → SqL K H a xs)
    (hs : ∀ D, H D = none → ∀ i x H2, xs[i]? = some x → Pv D i H2 → kTurn g tt te vs σ D x H2 (Pv D (i + 1))) (hd : ∀ D, H D = none → ∀ H2, Pv D xs.length H2 → Q (.ref D) H2) : kLc (Itl K a) g tt te vs σ H Q :=
  fun D hD => lc_list (Pv D) (h0 D _ (New.mk' hD)) (hl D) (hs D hD) (hd D hD)
theorem k_lcT {a : Addr} (xs : List V) {g : TG} {tt : TT} {te : TE} {vs : List Nat} (Pv : Addr → Nat → Hp → Prop) (h0 : ∀ D H', New D (.lst []) H H' → Pv D 0 H') (hl : ∀ D i H, i ≤ xs.length → Pv D i H → SqT K H a xs)
    (hs : ∀ D, H D = none → ∀ i x H2, xs[i]? = some x → Pv D i H2 → kTurn g tt te vs σ D x H2 (Pv D (i + 1))) (hd : ∀ D, H D = none → ∀ H2, Pv D xs.length H2 → Q (.ref D) H2) : kLc (Itt K a) g tt te vs σ H Q :=
  fun D hD => lc_tup (Pv D) (h0 D _ (New.mk' hD)) (hl D) (hs D hD) (hd D hD)
theorem w_wipe {a b : St} {vs : List Nat} {B : Prop} (e : wipe a vs = wipe b vs) (h : B) : wipe a vs = wipe b vs ∧ B := ⟨e, h⟩
theorem w_yes {Q : Bool → Hp → Prop} (h : Q true H) : tYes σ H Q := h
theorem w_rng1 {ta : TA} {R : It → Hp → Prop} (h : ta σ H fun vs H1 => ∃ j : Int, vs = [.int j] ∧ -(2 ^ 62) ≤ j ∧ j < 2 ^ 62 ∧ R (Itr 0 j.toNat) H1) : iRng1 ta σ H R := h
theorem w_rng2 {ta : TA} {R : It → Hp → Prop} (h : ta σ H fun vs H1 => ∃ i j : Int, vs = [.int i, .int j] ∧ (-(2 ^ 62) ≤ i ∧ i < 2 ^ 62 ∧ -(2 ^ 62) ≤ j ∧ j < 2 ^ 62) ∧ R (Itr i (j - i).toNat) H1) : iRng2 ta σ H R := h
theorem w_rng1a {a : Int} {P : Int → Prop} (h1 : -(2 ^ 62) ≤ a) (h2 : a < 2 ^ 62) (h : P a) : ∃ j : Int, [V.int a] = [.int j] ∧ -(2 ^ 62) ≤ j ∧ j < 2 ^ 62 ∧ P j := ⟨a, rfl, h1, h2, h⟩
theorem w_rng2a {a b : Int} {P : Int → Int → Prop} (h1 : -(2 ^ 62) ≤ a) (h2 : a < 2 ^ 62) (h3 : -(2 ^ 62) ≤ b) (h4 : b < 2 ^ 62) (h : P a b) : ∃ i j : Int, [V.int a, V.int b] = [.int i, .int j] ∧ (-(2 ^ 62) ≤ i ∧ i < 2 ^ 62 ∧ -(2 ^ 62) ≤ j ∧ j < 2 ^ 62) ∧ P i j := ⟨a, b, rfl, ⟨h1, h2, h3, h4⟩, h⟩
theorem w_cat {l b : Addr} {xs zs : List V} (h1 : H l = some (.lst xs)) (h2 : H b = some (.lst zs)) (sz : xs.length + zs.length ≤ sizeLine) (h : ∀ p H', New p (.lst (xs ++ zs)) H H' → Q (.ref p) H') : rCat (.ref l) (.ref b) H Q := ⟨l, b, xs, zs, rfl, rfl, h1, h2, sz, fun p hp => h p _ (New.mk' hp)⟩
theorem w_rep {l : Addr} {xs : List V} {k : Int} (h1 : H l = some (.lst xs)) (ha : -(2 ^ 63) ≤ k) (hb : k < 2 ^ 63) (sz : xs.length * k.toNat ≤ sizeLine) (h : ∀ p H', New p (.lst (List.replicate k.toNat xs).flatten) H H' → Q (.ref p) H') : rRep (.ref l) (.int k) H Q := ⟨l, k, xs, rfl, rfl, h1, ha, hb, sz, fun p hp => h p _ (New.mk' hp)⟩
end
section
variable {X : Cx} {K : PySem.W.Frag}
theorem cr_allK (h : X.K = K) (hc : X.calm = true) : CallR X (.builtin "all") (rAll K) := by
  subst h
  exact cr_all hc
theorem pi_zipAK {e e2 : Expr} {ta : TA} {p pos tpos : Pos} {elts : List Expr} {kk : Nat} (h : X.K = K) (hg : Gl X "zip") (hm : X.mg "zip" = none) (ha : PA X [e, e2] ta)
    (hs : starEach [e, e2] X.env = (false, eval e X.env) :: starEach [e2] X.env := by rfl) (hpl : (backTo pos (starEach [e2] X.env)).any (·.1) = false := by rfl) :
    PI X (.Tuple elts kk tpos) (.Call (.Name "zip" p) [e, e2] [] pos) (RZ.iZipA K ta) := by
  subst h
  exact RZ.pi_zipA hg hm ha hs hpl
end
theorem iteNF {c A B : Prop} [Decidable c] (hc : c) (h : B) : if (!decide c) = true then A else B := by
  rw [decide_eq_true hc]
  exact h
theorem iteNT {c A B : Prop} [Decidable c] (hc : ¬ c) (h : A) : if (!decide c) = true then A else B := by
  rw [decide_eq_false hc]
  exact h
theorem newOf {H H' : Hp} {p : Addr} {o : HO} (h : H p = none) (e : upd H p o = H') : New p o H H' := by
  subst e
  exact New.mk' h
section
variable {K : PySem.W.Frag} {σ σ' : St} {H : Hp} {Q : VK}
theorem k_lcZ {a b : Addr} (xs ys : List V) {g : TG} {tt : TT} {te : TE} {vs : List Nat} (hl : xs.length = ys.length) (Pv : Addr → Nat → Hp → Prop) (h0 : ∀ D H', New D (.lst []) H H' → Pv D 0 H') (hq : ∀ D i H, Pv D i H → SqT K H a xs ∧ SqT K H b ys)
    (hs : ∀ D, H D = none → ∀ i x y T H2 H3, xs[i]? = some x → ys[i]? = some y → Pv D i H2 → New T (.tup [x, y]) H2 H3 → kTurn g tt te vs σ D (.ref T) H3 (Pv D (i + 1))) (hd : ∀ D, H D = none → ∀ H2, Pv D xs.length H2 → Q (.ref D) H2) : kLc (RZ.ItzT K a b) g tt te vs σ H Q := by
  intro D hD
  refine ⟨fun i m H2 => m = xs.length - i ∧ i ≤ xs.length ∧ Pv D i H2, ⟨xs.length, by simp, Nat.zero_le _, h0 D _ (New.mk' hD)⟩, ?_⟩
  rintro i m H2 ⟨rfl, hi, p⟩
  obtain ⟨q1, q2⟩ := hq D i H2 p
  by_cases hlt : i < xs.length
  · refine .inr ⟨⟨xs, ys, xs[i], ys[i], q1, q2, by simp [hlt], by simp⟩, Pv D (i + 1), fun H' p' => ⟨xs.length - (i + 1), by omega, rfl, hlt, p'⟩, fun v H' y => ?_⟩
    obtain ⟨T, x, y', rfl, hT, rfl, hx, hy⟩ := y
    exact hs D hD i x y' T H2 _ (hx _ q1) (hy _ q2) p (New.mk' hT)
  · have e : i = xs.length := by omega
    subst e
    exact .inl ⟨⟨xs, ys, q1, q2, .inl (Nat.le_refl _)⟩, hd D hD H2 p⟩
theorem w_zipA {ta : TA} {R : It → Hp → Prop} (h : ta σ H fun vs H1 => ∃ a b xs ys, vs = [.ref a, .ref b] ∧ ((SqL K H1 a xs ∧ SqL K H1 b ys ∧ R (Itz K a b) H1) ∨ (SqT K H1 a xs ∧ SqT K H1 b ys ∧ R (RZ.ItzT K a b) H1))) : RZ.iZipA K ta σ H R := h
theorem w_zipT {a b : Addr} {xs ys : List V} {R : Addr → Addr → Prop} {P : Addr → Addr → Prop} (h1 : H a = some (.tup xs)) (h2 : H b = some (.tup ys)) (h : P a b) : ∃ a' b' xs' ys', [V.ref a, V.ref b] = [.ref a', .ref b'] ∧ ((SqL K H a' xs' ∧ SqL K H b' ys' ∧ R a' b') ∨ (SqT K H a' xs' ∧ SqT K H b' ys' ∧ P a' b')) :=
  ⟨a, b, xs, ys, rfl, .inr ⟨SqT.of h1, SqT.of h2, h⟩⟩
theorem w_meth {C : Addr} {m : Str} {sp : Sp} {dvs : List V} {E : XK} {ta : TE} {t : TA} (h : ta σ H fun x H1 => ∃ a dx fs, x = .ref a ∧ H1 a = some (.ins C dx fs) ∧ fs.lookup m = none ∧ t σ H1 fun vs H2 => sp (x :: (vs ++ dvs)) H2 Q E) : tMeth C m sp dvs E ta t σ H Q := h
theorem w_meth1 {p C dx : Addr} {fs : List (Str × V)} {m : Str} {B : Prop} (i : H p = some (.ins C dx fs)) (l : fs.lookup m = none) (h : B) : ∃ a' dx' fs', V.ref p = .ref a' ∧ H a' = some (.ins C dx' fs') ∧ fs'.lookup m = none ∧ B := ⟨p, dx, fs, rfl, i, l, h⟩
theorem w_tupOfL {p : Addr} {xs : List V} {P : List V → Prop} {R : Addr → Prop} (a : H p = some (.lst xs)) (h : P xs) : ∃ p' ys, [V.ref p] = [.ref p'] ∧ ((SqL K H p' ys ∧ P ys) ∨ (SqT K H p' ys ∧ R p')) := ⟨p, xs, rfl, .inl ⟨SqL.of a, h⟩⟩
theorem w_tupOfT {p : Addr} {xs : List V} {P : List V → Prop} {R : Addr → Prop} (a : H p = some (.tup xs)) (h : R p) : ∃ p' ys, [V.ref p] = [.ref p'] ∧ ((SqL K H p' ys ∧ P ys) ∨ (SqT K H p' ys ∧ R p')) := ⟨p, xs, rfl, .inr ⟨SqT.of a, h⟩⟩
theorem w_intB {b : Bool} {P : Int → Prop} {R : Bool → Prop} (h : R b) : (∃ i, [V.bl b] = [.int i] ∧ P i) ∨ ∃ k, [V.bl b] = [.bl k] ∧ R k := .inr ⟨b, rfl, h⟩
theorem w_intI {i : Int} {P : Int → Prop} {R : Bool → Prop} (h : P i) : (∃ i', [V.int i] = [.int i'] ∧ P i') ∨ ∃ k, [V.int i] = [.bl k] ∧ R k := .inl ⟨i, rfl, h⟩
theorem w_sl {r : V → Option Int → Option Int → Hp → VK → Prop} {te : TE} {tl th : TO} (h : te σ H fun x H1 => tl σ H1 fun l H2 => th σ H2 fun u H3 => r x l u H3 Q) : tSl r te tl th σ H Q := h
theorem w_part {t : TE} {Q : Option Int → Hp → Prop} (h : t σ H fun x H1 => ∃ i, x = .int i ∧ Q (some i) H1) : tPart t σ H Q := h
theorem w_part1 {i : Int} {P : Int → Prop} (h : P i) : ∃ i', V.int i = .int i' ∧ P i' := ⟨i, rfl, h⟩
theorem w_nopart {Q : Option Int → Hp → Prop} (h : Q none H) : tNoPart σ H Q := h
theorem w_slL {a : Addr} {xs : List V} {lo hi : Option Int} (i : H a = some (.lst xs)) (h : ∀ p H', New p (.lst (cutV xs lo hi)) H H' → Q (.ref p) H') : rSlL K (.ref a) lo hi H Q := ⟨a, xs, rfl, SqL.of i, fun p hp => h p _ (New.mk' hp)⟩
theorem w_isi {x : V} {n t : String} {b : Bool} (ty : TyX K H x (.type t)) (k : kitB t n = some b) (h : Q (.bl b) H) : rIsi K [x, .ty n] H Q := ⟨x, .ty n, _, _, b, rfl, .ty n, ty, kit_ty k, h⟩
theorem w_all {a : Addr} {bs : List Bool} (i : H a = some (.lst (bs.map V.bl))) (h : Q (.bl (bs.all id)) H) : rAll K [.ref a] H Q := ⟨a, bs, rfl, SqL.of i, h⟩
theorem w_gSub {to ti : TE} {t : TSet} {v : V} {Q : St → Hp → Prop} (h : to σ H fun o H1 => ti σ H1 fun i H2 => t o i v H2 fun H3 => Q σ H3) : gSub to ti t v σ H Q := h
/-- a field is stored -/
def kSet (K : PySem.W.Frag) (f : Str) (y x : V) (H : Hp) (P : Hp → Prop) : Prop := sFld K (tC x) (tC y) f ⟨fun _ H' => P H', fun _ _ => True, fun _ _ => True, fun _ _ => True⟩ [] H
theorem w_sfld {ta tv : TE} {f : Str} {D : Ends} (h : tv σ H fun y H1 => ta σ H1 fun x H2 => kSet K f y x H2 (fun H3 => D.nx σ H3)) : sFld K ta tv f D σ H := h
theorem w_kset {p C dx : Addr} {f : Str} {y : V} {fs : List (Str × V)} {P : Hp → Prop} (i : H p = some (.ins C dx fs)) (c : Cls K C) (n : NoAttr K C f) (l : fs.length < 1000) (h : ∀ H', Chg p (.ins C dx fs) (.ins C dx (putF f y fs)) H H' → P H') : kSet K f y (.ref p) H P := ⟨p, C, dx, fs, rfl, i, c, n, l, h _ (Chg.mk' i)⟩
/-- an instance is made -/
def kMake (C : Addr) (sp : Sp) (dvs : List V) (E : XK) (vs : List V) (H : Hp) (Q : VK) : Prop := tMake C sp dvs E (fun _ H1 R => R vs H1) [] H Q
theorem w_make {C : Addr} {sp : Sp} {dvs : List V} {E : XK} {t : TA} (h : t σ H fun vs H1 => kMake C sp dvs E vs H1 Q) : tMake C sp dvs E t σ H Q := h
end
section
variable {K : PySem.W.Frag} {σ σ' : St} {H : Hp} {Q : VK}
theorem w_isiO {p C D dx : Addr} {fs : List (Str × V)} {b : Bool} (i : H p = some (.ins C dx fs)) (cl : Cls K C) (ha : PySem.W.findIn K (.ref C) "__class__" = some (some (.builtin "object.__class__")))
    (hn : PySem.W.specialIn K (.builtin "object.__class__") "__get__" = some (some (.builtin "getset_descriptor.__get__"))) (htk : PySem.W.takesIn K (.builtin "object.__class__") = some true)
    (hm : PySem.W.mroIn K C (.type "object") = some true) (k : PySem.W.kitOne K (.ref C) (.ref D) = some b) (h : Q (.bl b) H) : rIsi K [.ref p, .ref D] H Q :=
  ⟨_, _, _, _, b, rfl, .own D, .base (.ins i cl ha hn htk hm), k, h⟩
theorem call_strK {X : Cx} : CallR X (.type "str") (fun xs H Q => (∃ i, xs = [.int i] ∧ i.natAbs.log2 < 1920 ∧ Q (.str (toString i)) H) ∨ ∃ a, xs = [.str a] ∧ Q (.str a) H) := by
  intro pins s σ H xs us Q I r h
  rcases h with h | h
  · exact call_str_int pins s σ H xs us Q I r h
  · exact SkE.call_str_str pins s σ H xs us Q I r h
theorem w_strI {i : Int} {P : Int → Prop} {R : Str → Prop} (l : i.natAbs.log2 < 1920) (h : P i) : (∃ i', [V.int i] = [.int i'] ∧ i'.natAbs.log2 < 1920 ∧ P i') ∨ ∃ a, [V.int i] = [.str a] ∧ R a := .inl ⟨i, rfl, l, h⟩
theorem w_strS {s : Str} {P : Int → Prop} {R : Str → Prop} (h : R s) : (∃ i', [V.str s] = [.int i'] ∧ i'.natAbs.log2 < 1920 ∧ P i') ∨ ∃ a, [V.str s] = [.str a] ∧ R a := .inr ⟨s, rfl, h⟩
theorem w_m1 {r : V → List V → Hp → VK → Prop} {to te : TE} (h : to σ H fun x H1 => (∃ a, x = .str a) ∧ te σ H1 fun y H2 => r x [y] H2 Q) : tM1 r to te σ H Q := h
theorem w_m1a {s : Str} {B : Prop} (h : B) : (∃ a, V.str s = .str a) ∧ B := ⟨⟨s, rfl⟩, h⟩
theorem w_join {s : Str} {p : Addr} {ys : List Str} {P : Str → List Str → Prop} (i : SqL K H p (ys.map V.str) ∨ SqT K H p (ys.map V.str)) (z : (ys.map (·.length)).sum + ys.length * s.length ≤ 16777216) (h : P s ys) :
    ∃ a p', ∃ ys' : List Str, V.str s = .str a ∧ [V.ref p] = [.ref p'] ∧ (SqL K H p' (ys'.map V.str) ∨ SqT K H p' (ys'.map V.str)) ∧ (ys'.map (·.length)).sum + ys'.length * a.length ≤ 16777216 ∧ P a ys' := ⟨s, p, ys, rfl, rfl, i, z, h⟩
theorem w_addS {x y : Str} {P : Str → Str → Prop} (z : x.length + y.length ≤ sizeLine) (h : P x y) : ∃ i j, V.str x = .str i ∧ V.str y = .str j ∧ i.length + j.length ≤ sizeLine ∧ P i j := ⟨x, y, rfl, rfl, z, h⟩
end
local macro_rules | `(tactic| walk_at "ne") => `(tactic| first
  | assumption
  | exact Ne.symm (by assumption)
  | exact New.ne (by assumption) (by walk_at "look1")
  | exact Ne.symm (New.ne (by assumption) (by walk_at "look1")))
local macro_rules | `(tactic| walk_at "ne1") => `(tactic| first
  | assumption
  | exact Ne.symm (by assumption)
  | exact New.ne (by assumption) (by walk_at "look2")
  | exact Ne.symm (New.ne (by assumption) (by walk_at "look2")))
local macro_rules | `(tactic| walk_at "ne2") => `(tactic| first
  | assumption
  | exact Ne.symm (by assumption)
  | exact New.ne (by assumption) (by walk_at "look3")
  | exact Ne.symm (New.ne (by assumption) (by walk_at "look3")))
local macro_rules | `(tactic| walk_at "ne3") => `(tactic| first
  | assumption
  | exact Ne.symm (by assumption)
  | exact New.ne (by assumption) (by walk_at "look4")
  | exact Ne.symm (New.ne (by assumption) (by walk_at "look4")))
local macro_rules | `(tactic| walk_at "ne4") => `(tactic| first
  | assumption
  | exact Ne.symm (by assumption)
  | exact New.ne (by assumption) (by walk_at "look5")
  | exact Ne.symm (New.ne (by assumption) (by walk_at "look5")))
local macro_rules | `(tactic| walk_at "ne5") => `(tactic| first
  | assumption
  | exact Ne.symm (by assumption)
  | exact New.ne (by assumption) (by walk_at "look6")
  | exact Ne.symm (New.ne (by assumption) (by walk_at "look6")))
local macro_rules | `(tactic| walk_at "ne6") => `(tactic| first
  | assumption
  | exact Ne.symm (by assumption)
  | exact New.ne (by assumption) (by walk_at "look7")
  | exact Ne.symm (New.ne (by assumption) (by walk_at "look7")))
local macro_rules | `(tactic| walk_at "ne7") => `(tactic| first
  | assumption
  | exact Ne.symm (by assumption)
  | exact New.ne (by assumption) (by walk_at "look8")
  | exact Ne.symm (New.ne (by assumption) (by walk_at "look8")))
local macro_rules | `(tactic| walk_at "ne8") => `(tactic| first
  | assumption
  | exact Ne.symm (by assumption)
  | exact New.ne (by assumption) (by walk_at "look9")
  | exact Ne.symm (New.ne (by assumption) (by walk_at "look9")))
local macro_rules | `(tactic| walk_at "ne9") => `(tactic| first
  | assumption
  | exact Ne.symm (by assumption)
  | exact New.ne (by assumption) (by walk_at "look10")
  | exact Ne.symm (New.ne (by assumption) (by walk_at "look10")))
local macro_rules | `(tactic| walk_at "ne10") => `(tactic| first
  | assumption
  | exact Ne.symm (by assumption)
  | exact New.ne (by assumption) (by walk_at "look11")
  | exact Ne.symm (New.ne (by assumption) (by walk_at "look11")))
local macro_rules | `(tactic| walk_at "ne11") => `(tactic| first
  | assumption
  | exact Ne.symm (by assumption)
  | exact New.ne (by assumption) (by walk_at "look12")
  | exact Ne.symm (New.ne (by assumption) (by walk_at "look12")))
local macro_rules | `(tactic| walk_at "ne12") => `(tactic| first
  | assumption
  | exact Ne.symm (by assumption)
  | exact New.ne (by assumption) (by walk_at "look13")
  | exact Ne.symm (New.ne (by assumption) (by walk_at "look13")))
local macro_rules | `(tactic| walk_at "ne13") => `(tactic| first
  | assumption
  | exact Ne.symm (by assumption)
  | exact New.ne (by assumption) (by walk_at "look14")
  | exact Ne.symm (New.ne (by assumption) (by walk_at "look14")))
local macro_rules | `(tactic| walk_at "ne14") => `(tactic| first
  | assumption
  | exact Ne.symm (by assumption)
  | exact New.ne (by assumption) (by walk_at "look15")
  | exact Ne.symm (New.ne (by assumption) (by walk_at "look15")))
local macro_rules | `(tactic| walk_at "ne15") => `(tactic| first
  | assumption
  | exact Ne.symm (by assumption)
  | exact New.ne (by assumption) (by walk_at "look16")
  | exact Ne.symm (New.ne (by assumption) (by walk_at "look16")))
local macro_rules | `(tactic| walk_at "ne16") => `(tactic| first
  | assumption
  | exact Ne.symm (by assumption)
  | exact New.ne (by assumption) (by walk_at "look17")
  | exact Ne.symm (New.ne (by assumption) (by walk_at "look17")))
local macro_rules | `(tactic| walk_at "ne17") => `(tactic| first
  | assumption
  | exact Ne.symm (by assumption)
  | exact New.ne (by assumption) (by walk_at "look18")
  | exact Ne.symm (New.ne (by assumption) (by walk_at "look18")))
local macro_rules | `(tactic| walk_at "ne18") => `(tactic| first
  | assumption
  | exact Ne.symm (by assumption)
  | exact New.ne (by assumption) (by walk_at "look19")
  | exact Ne.symm (New.ne (by assumption) (by walk_at "look19")))
local macro_rules | `(tactic| walk_at "ne19") => `(tactic| first
  | assumption
  | exact Ne.symm (by assumption)
  | exact New.ne (by assumption) (by walk_at "look20")
  | exact Ne.symm (New.ne (by assumption) (by walk_at "look20")))
local macro_rules | `(tactic| walk_at "ne20") => `(tactic| first
  | assumption
  | exact Ne.symm (by assumption)
  | exact New.ne (by assumption) (by walk_at "look21")
  | exact Ne.symm (New.ne (by assumption) (by walk_at "look21")))
local macro_rules | `(tactic| walk_at "ne21") => `(tactic| first
  | assumption
  | exact Ne.symm (by assumption)
  | exact New.ne (by assumption) (by walk_at "look22")
  | exact Ne.symm (New.ne (by assumption) (by walk_at "look22")))
local macro_rules | `(tactic| walk_at "ne22") => `(tactic| first
  | assumption
  | exact Ne.symm (by assumption)
  | exact New.ne (by assumption) (by walk_at "look23")
  | exact Ne.symm (New.ne (by assumption) (by walk_at "look23")))
local macro_rules | `(tactic| walk_at "ne23") => `(tactic| first
  | assumption
  | exact Ne.symm (by assumption)
  | exact New.ne (by assumption) (by walk_at "look24")
  | exact Ne.symm (New.ne (by assumption) (by walk_at "look24")))
local macro_rules | `(tactic| walk_at "ne24") => `(tactic| assumption)
local macro_rules | `(tactic| walk_at "look") => `(tactic| first
  | assumption
  | exact New.at_ (by assumption)
  | exact Chg.at_ (by assumption)
  | exact New.get (by assumption) (by walk_at "look1")
  | exact Chg.getK (by assumption) (by walk_at "look1") (by exact rfl)
  | exact Chg.get (by assumption) (by walk_at "look1") (by walk_at "ne1")
  | exact sameGet (by assumption) (by walk_at "look1")
  | exact sbutGet (by assumption) (by walk_at "look1") (by walk_at "ne1")
  | exact keepGet (by assumption) (by walk_at "look1") trivial)
local macro_rules | `(tactic| walk_at "look1") => `(tactic| first
  | assumption
  | exact New.at_ (by assumption)
  | exact Chg.at_ (by assumption)
  | exact New.get (by assumption) (by walk_at "look2")
  | exact Chg.getK (by assumption) (by walk_at "look2") (by exact rfl)
  | exact Chg.get (by assumption) (by walk_at "look2") (by walk_at "ne2")
  | exact sameGet (by assumption) (by walk_at "look2")
  | exact sbutGet (by assumption) (by walk_at "look2") (by walk_at "ne2")
  | exact keepGet (by assumption) (by walk_at "look2") trivial)
local macro_rules | `(tactic| walk_at "look2") => `(tactic| first
  | assumption
  | exact New.at_ (by assumption)
  | exact Chg.at_ (by assumption)
  | exact New.get (by assumption) (by walk_at "look3")
  | exact Chg.getK (by assumption) (by walk_at "look3") (by exact rfl)
  | exact Chg.get (by assumption) (by walk_at "look3") (by walk_at "ne3")
  | exact sameGet (by assumption) (by walk_at "look3")
  | exact sbutGet (by assumption) (by walk_at "look3") (by walk_at "ne3")
  | exact keepGet (by assumption) (by walk_at "look3") trivial)
local macro_rules | `(tactic| walk_at "look3") => `(tactic| first
  | assumption
  | exact New.at_ (by assumption)
  | exact Chg.at_ (by assumption)
  | exact New.get (by assumption) (by walk_at "look4")
  | exact Chg.getK (by assumption) (by walk_at "look4") (by exact rfl)
  | exact Chg.get (by assumption) (by walk_at "look4") (by walk_at "ne4")
  | exact sameGet (by assumption) (by walk_at "look4")
  | exact sbutGet (by assumption) (by walk_at "look4") (by walk_at "ne4")
  | exact keepGet (by assumption) (by walk_at "look4") trivial)
local macro_rules | `(tactic| walk_at "look4") => `(tactic| first
  | assumption
  | exact New.at_ (by assumption)
  | exact Chg.at_ (by assumption)
  | exact New.get (by assumption) (by walk_at "look5")
  | exact Chg.getK (by assumption) (by walk_at "look5") (by exact rfl)
  | exact Chg.get (by assumption) (by walk_at "look5") (by walk_at "ne5")
  | exact sameGet (by assumption) (by walk_at "look5")
  | exact sbutGet (by assumption) (by walk_at "look5") (by walk_at "ne5")
  | exact keepGet (by assumption) (by walk_at "look5") trivial)
local macro_rules | `(tactic| walk_at "look5") => `(tactic| first
  | assumption
  | exact New.at_ (by assumption)
  | exact Chg.at_ (by assumption)
  | exact New.get (by assumption) (by walk_at "look6")
  | exact Chg.getK (by assumption) (by walk_at "look6") (by exact rfl)
  | exact Chg.get (by assumption) (by walk_at "look6") (by walk_at "ne6")
  | exact sameGet (by assumption) (by walk_at "look6")
  | exact sbutGet (by assumption) (by walk_at "look6") (by walk_at "ne6")
  | exact keepGet (by assumption) (by walk_at "look6") trivial)
local macro_rules | `(tactic| walk_at "look6") => `(tactic| first
  | assumption
  | exact New.at_ (by assumption)
  | exact Chg.at_ (by assumption)
  | exact New.get (by assumption) (by walk_at "look7")
  | exact Chg.getK (by assumption) (by walk_at "look7") (by exact rfl)
  | exact Chg.get (by assumption) (by walk_at "look7") (by walk_at "ne7")
  | exact sameGet (by assumption) (by walk_at "look7")
  | exact sbutGet (by assumption) (by walk_at "look7") (by walk_at "ne7")
  | exact keepGet (by assumption) (by walk_at "look7") trivial)
local macro_rules | `(tactic| walk_at "look7") => `(tactic| first
  | assumption
  | exact New.at_ (by assumption)
  | exact Chg.at_ (by assumption)
  | exact New.get (by assumption) (by walk_at "look8")
  | exact Chg.getK (by assumption) (by walk_at "look8") (by exact rfl)
  | exact Chg.get (by assumption) (by walk_at "look8") (by walk_at "ne8")
  | exact sameGet (by assumption) (by walk_at "look8")
  | exact sbutGet (by assumption) (by walk_at "look8") (by walk_at "ne8")
  | exact keepGet (by assumption) (by walk_at "look8") trivial)
local macro_rules | `(tactic| walk_at "look8") => `(tactic| first
  | assumption
  | exact New.at_ (by assumption)
  | exact Chg.at_ (by assumption)
  | exact New.get (by assumption) (by walk_at "look9")
  | exact Chg.getK (by assumption) (by walk_at "look9") (by exact rfl)
  | exact Chg.get (by assumption) (by walk_at "look9") (by walk_at "ne9")
  | exact sameGet (by assumption) (by walk_at "look9")
  | exact sbutGet (by assumption) (by walk_at "look9") (by walk_at "ne9")
  | exact keepGet (by assumption) (by walk_at "look9") trivial)
local macro_rules | `(tactic| walk_at "look9") => `(tactic| first
  | assumption
  | exact New.at_ (by assumption)
  | exact Chg.at_ (by assumption)
  | exact New.get (by assumption) (by walk_at "look10")
  | exact Chg.getK (by assumption) (by walk_at "look10") (by exact rfl)
  | exact Chg.get (by assumption) (by walk_at "look10") (by walk_at "ne10")
  | exact sameGet (by assumption) (by walk_at "look10")
  | exact sbutGet (by assumption) (by walk_at "look10") (by walk_at "ne10")
  | exact keepGet (by assumption) (by walk_at "look10") trivial)
local macro_rules | `(tactic| walk_at "look10") => `(tactic| first
  | assumption
  | exact New.at_ (by assumption)
  | exact Chg.at_ (by assumption)
  | exact New.get (by assumption) (by walk_at "look11")
  | exact Chg.getK (by assumption) (by walk_at "look11") (by exact rfl)
  | exact Chg.get (by assumption) (by walk_at "look11") (by walk_at "ne11")
  | exact sameGet (by assumption) (by walk_at "look11")
  | exact sbutGet (by assumption) (by walk_at "look11") (by walk_at "ne11")
  | exact keepGet (by assumption) (by walk_at "look11") trivial)
local macro_rules | `(tactic| walk_at "look11") => `(tactic| first
  | assumption
  | exact New.at_ (by assumption)
  | exact Chg.at_ (by assumption)
  | exact New.get (by assumption) (by walk_at "look12")
  | exact Chg.getK (by assumption) (by walk_at "look12") (by exact rfl)
  | exact Chg.get (by assumption) (by walk_at "look12") (by walk_at "ne12")
  | exact sameGet (by assumption) (by walk_at "look12")
  | exact sbutGet (by assumption) (by walk_at "look12") (by walk_at "ne12")
  | exact keepGet (by assumption) (by walk_at "look12") trivial)
local macro_rules | `(tactic| walk_at "look12") => `(tactic| first
  | assumption
  | exact New.at_ (by assumption)
  | exact Chg.at_ (by assumption)
  | exact New.get (by assumption) (by walk_at "look13")
  | exact Chg.getK (by assumption) (by walk_at "look13") (by exact rfl)
  | exact Chg.get (by assumption) (by walk_at "look13") (by walk_at "ne13")
  | exact sameGet (by assumption) (by walk_at "look13")
  | exact sbutGet (by assumption) (by walk_at "look13") (by walk_at "ne13")
  | exact keepGet (by assumption) (by walk_at "look13") trivial)
local macro_rules | `(tactic| walk_at "look13") => `(tactic| first
  | assumption
  | exact New.at_ (by assumption)
  | exact Chg.at_ (by assumption)
  | exact New.get (by assumption) (by walk_at "look14")
  | exact Chg.getK (by assumption) (by walk_at "look14") (by exact rfl)
  | exact Chg.get (by assumption) (by walk_at "look14") (by walk_at "ne14")
  | exact sameGet (by assumption) (by walk_at "look14")
  | exact sbutGet (by assumption) (by walk_at "look14") (by walk_at "ne14")
  | exact keepGet (by assumption) (by walk_at "look14") trivial)
local macro_rules | `(tactic| walk_at "look14") => `(tactic| first
  | assumption
  | exact New.at_ (by assumption)
  | exact Chg.at_ (by assumption)
  | exact New.get (by assumption) (by walk_at "look15")
  | exact Chg.getK (by assumption) (by walk_at "look15") (by exact rfl)
  | exact Chg.get (by assumption) (by walk_at "look15") (by walk_at "ne15")
  | exact sameGet (by assumption) (by walk_at "look15")
  | exact sbutGet (by assumption) (by walk_at "look15") (by walk_at "ne15")
  | exact keepGet (by assumption) (by walk_at "look15") trivial)
local macro_rules | `(tactic| walk_at "look15") => `(tactic| first
  | assumption
  | exact New.at_ (by assumption)
  | exact Chg.at_ (by assumption)
  | exact New.get (by assumption) (by walk_at "look16")
  | exact Chg.getK (by assumption) (by walk_at "look16") (by exact rfl)
  | exact Chg.get (by assumption) (by walk_at "look16") (by walk_at "ne16")
  | exact sameGet (by assumption) (by walk_at "look16")
  | exact sbutGet (by assumption) (by walk_at "look16") (by walk_at "ne16")
  | exact keepGet (by assumption) (by walk_at "look16") trivial)
local macro_rules | `(tactic| walk_at "look16") => `(tactic| first
  | assumption
  | exact New.at_ (by assumption)
  | exact Chg.at_ (by assumption)
  | exact New.get (by assumption) (by walk_at "look17")
  | exact Chg.getK (by assumption) (by walk_at "look17") (by exact rfl)
  | exact Chg.get (by assumption) (by walk_at "look17") (by walk_at "ne17")
  | exact sameGet (by assumption) (by walk_at "look17")
  | exact sbutGet (by assumption) (by walk_at "look17") (by walk_at "ne17")
  | exact keepGet (by assumption) (by walk_at "look17") trivial)
local macro_rules | `(tactic| walk_at "look17") => `(tactic| first
  | assumption
  | exact New.at_ (by assumption)
  | exact Chg.at_ (by assumption)
  | exact New.get (by assumption) (by walk_at "look18")
  | exact Chg.getK (by assumption) (by walk_at "look18") (by exact rfl)
  | exact Chg.get (by assumption) (by walk_at "look18") (by walk_at "ne18")
  | exact sameGet (by assumption) (by walk_at "look18")
  | exact sbutGet (by assumption) (by walk_at "look18") (by walk_at "ne18")
  | exact keepGet (by assumption) (by walk_at "look18") trivial)
local macro_rules | `(tactic| walk_at "look18") => `(tactic| first
  | assumption
  | exact New.at_ (by assumption)
  | exact Chg.at_ (by assumption)
  | exact New.get (by assumption) (by walk_at "look19")
  | exact Chg.getK (by assumption) (by walk_at "look19") (by exact rfl)
  | exact Chg.get (by assumption) (by walk_at "look19") (by walk_at "ne19")
  | exact sameGet (by assumption) (by walk_at "look19")
  | exact sbutGet (by assumption) (by walk_at "look19") (by walk_at "ne19")
  | exact keepGet (by assumption) (by walk_at "look19") trivial)
local macro_rules | `(tactic| walk_at "look19") => `(tactic| first
  | assumption
  | exact New.at_ (by assumption)
  | exact Chg.at_ (by assumption)
  | exact New.get (by assumption) (by walk_at "look20")
  | exact Chg.getK (by assumption) (by walk_at "look20") (by exact rfl)
  | exact Chg.get (by assumption) (by walk_at "look20") (by walk_at "ne20")
  | exact sameGet (by assumption) (by walk_at "look20")
  | exact sbutGet (by assumption) (by walk_at "look20") (by walk_at "ne20")
  | exact keepGet (by assumption) (by walk_at "look20") trivial)
local macro_rules | `(tactic| walk_at "look20") => `(tactic| first
  | assumption
  | exact New.at_ (by assumption)
  | exact Chg.at_ (by assumption)
  | exact New.get (by assumption) (by walk_at "look21")
  | exact Chg.getK (by assumption) (by walk_at "look21") (by exact rfl)
  | exact Chg.get (by assumption) (by walk_at "look21") (by walk_at "ne21")
  | exact sameGet (by assumption) (by walk_at "look21")
  | exact sbutGet (by assumption) (by walk_at "look21") (by walk_at "ne21")
  | exact keepGet (by assumption) (by walk_at "look21") trivial)
local macro_rules | `(tactic| walk_at "look21") => `(tactic| first
  | assumption
  | exact New.at_ (by assumption)
  | exact Chg.at_ (by assumption)
  | exact New.get (by assumption) (by walk_at "look22")
  | exact Chg.getK (by assumption) (by walk_at "look22") (by exact rfl)
  | exact Chg.get (by assumption) (by walk_at "look22") (by walk_at "ne22")
  | exact sameGet (by assumption) (by walk_at "look22")
  | exact sbutGet (by assumption) (by walk_at "look22") (by walk_at "ne22")
  | exact keepGet (by assumption) (by walk_at "look22") trivial)
local macro_rules | `(tactic| walk_at "look22") => `(tactic| first
  | assumption
  | exact New.at_ (by assumption)
  | exact Chg.at_ (by assumption)
  | exact New.get (by assumption) (by walk_at "look23")
  | exact Chg.getK (by assumption) (by walk_at "look23") (by exact rfl)
  | exact Chg.get (by assumption) (by walk_at "look23") (by walk_at "ne23")
  | exact sameGet (by assumption) (by walk_at "look23")
  | exact sbutGet (by assumption) (by walk_at "look23") (by walk_at "ne23")
  | exact keepGet (by assumption) (by walk_at "look23") trivial)
local macro_rules | `(tactic| walk_at "look23") => `(tactic| first
  | assumption
  | exact New.at_ (by assumption)
  | exact Chg.at_ (by assumption)
  | exact New.get (by assumption) (by walk_at "look24")
  | exact Chg.getK (by assumption) (by walk_at "look24") (by exact rfl)
  | exact Chg.get (by assumption) (by walk_at "look24") (by walk_at "ne24")
  | exact sameGet (by assumption) (by walk_at "look24")
  | exact sbutGet (by assumption) (by walk_at "look24") (by walk_at "ne24")
  | exact keepGet (by assumption) (by walk_at "look24") trivial)
local macro_rules | `(tactic| walk_at "look24") => `(tactic| assumption)
local macro_rules | `(tactic| walk_at "kp") => `(tactic| first
  | exact fun _ _ h _ => h
  | assumption
  | exact Keep.of (by assumption)
  | exact keepStep (New.keep (by assumption)) (by walk_at "kp1")
  | exact keepStep (Chg.keepL (by assumption)) (by walk_at "kp1")
  | exact keepStep (Chg.keepD (by assumption)) (by walk_at "kp1")
  | exact keepStep (Chg.keepE (by assumption)) (by walk_at "kp1")
  | exact keepStep (Keep.of (by assumption)) (by walk_at "kp1")
  | exact keepStep (by assumption) (by walk_at "kp1"))
local macro_rules | `(tactic| walk_at "kp1") => `(tactic| first
  | exact fun _ _ h _ => h
  | assumption
  | exact Keep.of (by assumption)
  | exact keepStep (New.keep (by assumption)) (by walk_at "kp2")
  | exact keepStep (Chg.keepL (by assumption)) (by walk_at "kp2")
  | exact keepStep (Chg.keepD (by assumption)) (by walk_at "kp2")
  | exact keepStep (Chg.keepE (by assumption)) (by walk_at "kp2")
  | exact keepStep (Keep.of (by assumption)) (by walk_at "kp2")
  | exact keepStep (by assumption) (by walk_at "kp2"))
local macro_rules | `(tactic| walk_at "kp2") => `(tactic| first
  | exact fun _ _ h _ => h
  | assumption
  | exact Keep.of (by assumption)
  | exact keepStep (New.keep (by assumption)) (by walk_at "kp3")
  | exact keepStep (Chg.keepL (by assumption)) (by walk_at "kp3")
  | exact keepStep (Chg.keepD (by assumption)) (by walk_at "kp3")
  | exact keepStep (Chg.keepE (by assumption)) (by walk_at "kp3")
  | exact keepStep (Keep.of (by assumption)) (by walk_at "kp3")
  | exact keepStep (by assumption) (by walk_at "kp3"))
local macro_rules | `(tactic| walk_at "kp3") => `(tactic| first
  | exact fun _ _ h _ => h
  | assumption
  | exact Keep.of (by assumption)
  | exact keepStep (New.keep (by assumption)) (by walk_at "kp4")
  | exact keepStep (Chg.keepL (by assumption)) (by walk_at "kp4")
  | exact keepStep (Chg.keepD (by assumption)) (by walk_at "kp4")
  | exact keepStep (Chg.keepE (by assumption)) (by walk_at "kp4")
  | exact keepStep (Keep.of (by assumption)) (by walk_at "kp4")
  | exact keepStep (by assumption) (by walk_at "kp4"))
local macro_rules | `(tactic| walk_at "kp4") => `(tactic| first
  | exact fun _ _ h _ => h
  | assumption
  | exact Keep.of (by assumption)
  | exact keepStep (New.keep (by assumption)) (by walk_at "kp5")
  | exact keepStep (Chg.keepL (by assumption)) (by walk_at "kp5")
  | exact keepStep (Chg.keepD (by assumption)) (by walk_at "kp5")
  | exact keepStep (Chg.keepE (by assumption)) (by walk_at "kp5")
  | exact keepStep (Keep.of (by assumption)) (by walk_at "kp5")
  | exact keepStep (by assumption) (by walk_at "kp5"))
local macro_rules | `(tactic| walk_at "kp5") => `(tactic| first
  | exact fun _ _ h _ => h
  | assumption
  | exact Keep.of (by assumption)
  | exact keepStep (New.keep (by assumption)) (by walk_at "kp6")
  | exact keepStep (Chg.keepL (by assumption)) (by walk_at "kp6")
  | exact keepStep (Chg.keepD (by assumption)) (by walk_at "kp6")
  | exact keepStep (Chg.keepE (by assumption)) (by walk_at "kp6")
  | exact keepStep (Keep.of (by assumption)) (by walk_at "kp6")
  | exact keepStep (by assumption) (by walk_at "kp6"))
local macro_rules | `(tactic| walk_at "kp6") => `(tactic| first
  | exact fun _ _ h _ => h
  | assumption
  | exact Keep.of (by assumption)
  | exact keepStep (New.keep (by assumption)) (by walk_at "kp7")
  | exact keepStep (Chg.keepL (by assumption)) (by walk_at "kp7")
  | exact keepStep (Chg.keepD (by assumption)) (by walk_at "kp7")
  | exact keepStep (Chg.keepE (by assumption)) (by walk_at "kp7")
  | exact keepStep (Keep.of (by assumption)) (by walk_at "kp7")
  | exact keepStep (by assumption) (by walk_at "kp7"))
local macro_rules | `(tactic| walk_at "kp7") => `(tactic| first
  | exact fun _ _ h _ => h
  | assumption
  | exact Keep.of (by assumption)
  | exact keepStep (New.keep (by assumption)) (by walk_at "kp8")
  | exact keepStep (Chg.keepL (by assumption)) (by walk_at "kp8")
  | exact keepStep (Chg.keepD (by assumption)) (by walk_at "kp8")
  | exact keepStep (Chg.keepE (by assumption)) (by walk_at "kp8")
  | exact keepStep (Keep.of (by assumption)) (by walk_at "kp8")
  | exact keepStep (by assumption) (by walk_at "kp8"))
local macro_rules | `(tactic| walk_at "kp8") => `(tactic| first
  | exact fun _ _ h _ => h
  | assumption
  | exact Keep.of (by assumption)
  | exact keepStep (New.keep (by assumption)) (by walk_at "kp9")
  | exact keepStep (Chg.keepL (by assumption)) (by walk_at "kp9")
  | exact keepStep (Chg.keepD (by assumption)) (by walk_at "kp9")
  | exact keepStep (Chg.keepE (by assumption)) (by walk_at "kp9")
  | exact keepStep (Keep.of (by assumption)) (by walk_at "kp9")
  | exact keepStep (by assumption) (by walk_at "kp9"))
local macro_rules | `(tactic| walk_at "kp9") => `(tactic| first
  | exact fun _ _ h _ => h
  | assumption
  | exact Keep.of (by assumption)
  | exact keepStep (New.keep (by assumption)) (by walk_at "kp10")
  | exact keepStep (Chg.keepL (by assumption)) (by walk_at "kp10")
  | exact keepStep (Chg.keepD (by assumption)) (by walk_at "kp10")
  | exact keepStep (Chg.keepE (by assumption)) (by walk_at "kp10")
  | exact keepStep (Keep.of (by assumption)) (by walk_at "kp10")
  | exact keepStep (by assumption) (by walk_at "kp10"))
local macro_rules | `(tactic| walk_at "kp10") => `(tactic| first
  | exact fun _ _ h _ => h
  | assumption
  | exact Keep.of (by assumption)
  | exact keepStep (New.keep (by assumption)) (by walk_at "kp11")
  | exact keepStep (Chg.keepL (by assumption)) (by walk_at "kp11")
  | exact keepStep (Chg.keepD (by assumption)) (by walk_at "kp11")
  | exact keepStep (Chg.keepE (by assumption)) (by walk_at "kp11")
  | exact keepStep (Keep.of (by assumption)) (by walk_at "kp11")
  | exact keepStep (by assumption) (by walk_at "kp11"))
local macro_rules | `(tactic| walk_at "kp11") => `(tactic| first
  | exact fun _ _ h _ => h
  | assumption
  | exact Keep.of (by assumption)
  | exact keepStep (New.keep (by assumption)) (by walk_at "kp12")
  | exact keepStep (Chg.keepL (by assumption)) (by walk_at "kp12")
  | exact keepStep (Chg.keepD (by assumption)) (by walk_at "kp12")
  | exact keepStep (Chg.keepE (by assumption)) (by walk_at "kp12")
  | exact keepStep (Keep.of (by assumption)) (by walk_at "kp12")
  | exact keepStep (by assumption) (by walk_at "kp12"))
local macro_rules | `(tactic| walk_at "kp12") => `(tactic| first
  | exact fun _ _ h _ => h
  | assumption
  | exact Keep.of (by assumption)
  | exact keepStep (New.keep (by assumption)) (by walk_at "kp13")
  | exact keepStep (Chg.keepL (by assumption)) (by walk_at "kp13")
  | exact keepStep (Chg.keepD (by assumption)) (by walk_at "kp13")
  | exact keepStep (Chg.keepE (by assumption)) (by walk_at "kp13")
  | exact keepStep (Keep.of (by assumption)) (by walk_at "kp13")
  | exact keepStep (by assumption) (by walk_at "kp13"))
local macro_rules | `(tactic| walk_at "kp13") => `(tactic| first
  | exact fun _ _ h _ => h
  | assumption
  | exact Keep.of (by assumption)
  | exact keepStep (New.keep (by assumption)) (by walk_at "kp14")
  | exact keepStep (Chg.keepL (by assumption)) (by walk_at "kp14")
  | exact keepStep (Chg.keepD (by assumption)) (by walk_at "kp14")
  | exact keepStep (Chg.keepE (by assumption)) (by walk_at "kp14")
  | exact keepStep (Keep.of (by assumption)) (by walk_at "kp14")
  | exact keepStep (by assumption) (by walk_at "kp14"))
local macro_rules | `(tactic| walk_at "kp14") => `(tactic| first
  | exact fun _ _ h _ => h
  | assumption
  | exact Keep.of (by assumption)
  | exact keepStep (New.keep (by assumption)) (by walk_at "kp15")
  | exact keepStep (Chg.keepL (by assumption)) (by walk_at "kp15")
  | exact keepStep (Chg.keepD (by assumption)) (by walk_at "kp15")
  | exact keepStep (Chg.keepE (by assumption)) (by walk_at "kp15")
  | exact keepStep (Keep.of (by assumption)) (by walk_at "kp15")
  | exact keepStep (by assumption) (by walk_at "kp15"))
local macro_rules | `(tactic| walk_at "kp15") => `(tactic| first
  | exact fun _ _ h _ => h
  | assumption
  | exact Keep.of (by assumption)
  | exact keepStep (New.keep (by assumption)) (by walk_at "kp16")
  | exact keepStep (Chg.keepL (by assumption)) (by walk_at "kp16")
  | exact keepStep (Chg.keepD (by assumption)) (by walk_at "kp16")
  | exact keepStep (Chg.keepE (by assumption)) (by walk_at "kp16")
  | exact keepStep (Keep.of (by assumption)) (by walk_at "kp16")
  | exact keepStep (by assumption) (by walk_at "kp16"))
local macro_rules | `(tactic| walk_at "kp16") => `(tactic| first
  | exact fun _ _ h _ => h
  | assumption
  | exact Keep.of (by assumption)
  | exact keepStep (New.keep (by assumption)) (by walk_at "kp17")
  | exact keepStep (Chg.keepL (by assumption)) (by walk_at "kp17")
  | exact keepStep (Chg.keepD (by assumption)) (by walk_at "kp17")
  | exact keepStep (Chg.keepE (by assumption)) (by walk_at "kp17")
  | exact keepStep (Keep.of (by assumption)) (by walk_at "kp17")
  | exact keepStep (by assumption) (by walk_at "kp17"))
local macro_rules | `(tactic| walk_at "kp17") => `(tactic| first
  | exact fun _ _ h _ => h
  | assumption
  | exact Keep.of (by assumption)
  | exact keepStep (New.keep (by assumption)) (by walk_at "kp18")
  | exact keepStep (Chg.keepL (by assumption)) (by walk_at "kp18")
  | exact keepStep (Chg.keepD (by assumption)) (by walk_at "kp18")
  | exact keepStep (Chg.keepE (by assumption)) (by walk_at "kp18")
  | exact keepStep (Keep.of (by assumption)) (by walk_at "kp18")
  | exact keepStep (by assumption) (by walk_at "kp18"))
local macro_rules | `(tactic| walk_at "kp18") => `(tactic| first
  | exact fun _ _ h _ => h
  | assumption
  | exact Keep.of (by assumption)
  | exact keepStep (New.keep (by assumption)) (by walk_at "kp19")
  | exact keepStep (Chg.keepL (by assumption)) (by walk_at "kp19")
  | exact keepStep (Chg.keepD (by assumption)) (by walk_at "kp19")
  | exact keepStep (Chg.keepE (by assumption)) (by walk_at "kp19")
  | exact keepStep (Keep.of (by assumption)) (by walk_at "kp19")
  | exact keepStep (by assumption) (by walk_at "kp19"))
local macro_rules | `(tactic| walk_at "kp19") => `(tactic| first
  | exact fun _ _ h _ => h
  | assumption
  | exact Keep.of (by assumption)
  | exact keepStep (New.keep (by assumption)) (by walk_at "kp20")
  | exact keepStep (Chg.keepL (by assumption)) (by walk_at "kp20")
  | exact keepStep (Chg.keepD (by assumption)) (by walk_at "kp20")
  | exact keepStep (Chg.keepE (by assumption)) (by walk_at "kp20")
  | exact keepStep (Keep.of (by assumption)) (by walk_at "kp20")
  | exact keepStep (by assumption) (by walk_at "kp20"))
local macro_rules | `(tactic| walk_at "kp20") => `(tactic| first
  | exact fun _ _ h _ => h
  | assumption
  | exact Keep.of (by assumption)
  | exact keepStep (New.keep (by assumption)) (by walk_at "kp21")
  | exact keepStep (Chg.keepL (by assumption)) (by walk_at "kp21")
  | exact keepStep (Chg.keepD (by assumption)) (by walk_at "kp21")
  | exact keepStep (Chg.keepE (by assumption)) (by walk_at "kp21")
  | exact keepStep (Keep.of (by assumption)) (by walk_at "kp21")
  | exact keepStep (by assumption) (by walk_at "kp21"))
local macro_rules | `(tactic| walk_at "kp21") => `(tactic| first
  | exact fun _ _ h _ => h
  | assumption
  | exact Keep.of (by assumption)
  | exact keepStep (New.keep (by assumption)) (by walk_at "kp22")
  | exact keepStep (Chg.keepL (by assumption)) (by walk_at "kp22")
  | exact keepStep (Chg.keepD (by assumption)) (by walk_at "kp22")
  | exact keepStep (Chg.keepE (by assumption)) (by walk_at "kp22")
  | exact keepStep (Keep.of (by assumption)) (by walk_at "kp22")
  | exact keepStep (by assumption) (by walk_at "kp22"))
local macro_rules | `(tactic| walk_at "kp22") => `(tactic| first
  | exact fun _ _ h _ => h
  | assumption
  | exact Keep.of (by assumption)
  | exact keepStep (New.keep (by assumption)) (by walk_at "kp23")
  | exact keepStep (Chg.keepL (by assumption)) (by walk_at "kp23")
  | exact keepStep (Chg.keepD (by assumption)) (by walk_at "kp23")
  | exact keepStep (Chg.keepE (by assumption)) (by walk_at "kp23")
  | exact keepStep (Keep.of (by assumption)) (by walk_at "kp23")
  | exact keepStep (by assumption) (by walk_at "kp23"))
local macro_rules | `(tactic| walk_at "kp23") => `(tactic| first
  | exact fun _ _ h _ => h
  | assumption
  | exact Keep.of (by assumption)
  | exact keepStep (New.keep (by assumption)) (by walk_at "kp24")
  | exact keepStep (Chg.keepL (by assumption)) (by walk_at "kp24")
  | exact keepStep (Chg.keepD (by assumption)) (by walk_at "kp24")
  | exact keepStep (Chg.keepE (by assumption)) (by walk_at "kp24")
  | exact keepStep (Keep.of (by assumption)) (by walk_at "kp24")
  | exact keepStep (by assumption) (by walk_at "kp24"))
local macro_rules | `(tactic| walk_at "kp24") => `(tactic| assumption)
local macro_rules | `(tactic| walk_at "sm") => `(tactic| first
  | exact Same.refl _
  | assumption
  | exact sameStep (New.same (by assumption)) (by walk_at "sm1")
  | exact Chg.sameOwn (by assumption) (by walk_at "sm1") (by walk_at "fr1")
  | exact sameStep (by assumption) (by walk_at "sm1"))
local macro_rules | `(tactic| walk_at "sm1") => `(tactic| first
  | exact Same.refl _
  | assumption
  | exact sameStep (New.same (by assumption)) (by walk_at "sm2")
  | exact Chg.sameOwn (by assumption) (by walk_at "sm2") (by walk_at "fr2")
  | exact sameStep (by assumption) (by walk_at "sm2"))
local macro_rules | `(tactic| walk_at "sm2") => `(tactic| first
  | exact Same.refl _
  | assumption
  | exact sameStep (New.same (by assumption)) (by walk_at "sm3")
  | exact Chg.sameOwn (by assumption) (by walk_at "sm3") (by walk_at "fr3")
  | exact sameStep (by assumption) (by walk_at "sm3"))
local macro_rules | `(tactic| walk_at "sm3") => `(tactic| first
  | exact Same.refl _
  | assumption
  | exact sameStep (New.same (by assumption)) (by walk_at "sm4")
  | exact Chg.sameOwn (by assumption) (by walk_at "sm4") (by walk_at "fr4")
  | exact sameStep (by assumption) (by walk_at "sm4"))
local macro_rules | `(tactic| walk_at "sm4") => `(tactic| first
  | exact Same.refl _
  | assumption
  | exact sameStep (New.same (by assumption)) (by walk_at "sm5")
  | exact Chg.sameOwn (by assumption) (by walk_at "sm5") (by walk_at "fr5")
  | exact sameStep (by assumption) (by walk_at "sm5"))
local macro_rules | `(tactic| walk_at "sm5") => `(tactic| first
  | exact Same.refl _
  | assumption
  | exact sameStep (New.same (by assumption)) (by walk_at "sm6")
  | exact Chg.sameOwn (by assumption) (by walk_at "sm6") (by walk_at "fr6")
  | exact sameStep (by assumption) (by walk_at "sm6"))
local macro_rules | `(tactic| walk_at "sm6") => `(tactic| first
  | exact Same.refl _
  | assumption
  | exact sameStep (New.same (by assumption)) (by walk_at "sm7")
  | exact Chg.sameOwn (by assumption) (by walk_at "sm7") (by walk_at "fr7")
  | exact sameStep (by assumption) (by walk_at "sm7"))
local macro_rules | `(tactic| walk_at "sm7") => `(tactic| first
  | exact Same.refl _
  | assumption
  | exact sameStep (New.same (by assumption)) (by walk_at "sm8")
  | exact Chg.sameOwn (by assumption) (by walk_at "sm8") (by walk_at "fr8")
  | exact sameStep (by assumption) (by walk_at "sm8"))
local macro_rules | `(tactic| walk_at "sm8") => `(tactic| first
  | exact Same.refl _
  | assumption
  | exact sameStep (New.same (by assumption)) (by walk_at "sm9")
  | exact Chg.sameOwn (by assumption) (by walk_at "sm9") (by walk_at "fr9")
  | exact sameStep (by assumption) (by walk_at "sm9"))
local macro_rules | `(tactic| walk_at "sm9") => `(tactic| first
  | exact Same.refl _
  | assumption
  | exact sameStep (New.same (by assumption)) (by walk_at "sm10")
  | exact Chg.sameOwn (by assumption) (by walk_at "sm10") (by walk_at "fr10")
  | exact sameStep (by assumption) (by walk_at "sm10"))
local macro_rules | `(tactic| walk_at "sm10") => `(tactic| first
  | exact Same.refl _
  | assumption
  | exact sameStep (New.same (by assumption)) (by walk_at "sm11")
  | exact Chg.sameOwn (by assumption) (by walk_at "sm11") (by walk_at "fr11")
  | exact sameStep (by assumption) (by walk_at "sm11"))
local macro_rules | `(tactic| walk_at "sm11") => `(tactic| first
  | exact Same.refl _
  | assumption
  | exact sameStep (New.same (by assumption)) (by walk_at "sm12")
  | exact Chg.sameOwn (by assumption) (by walk_at "sm12") (by walk_at "fr12")
  | exact sameStep (by assumption) (by walk_at "sm12"))
local macro_rules | `(tactic| walk_at "sm12") => `(tactic| first
  | exact Same.refl _
  | assumption
  | exact sameStep (New.same (by assumption)) (by walk_at "sm13")
  | exact Chg.sameOwn (by assumption) (by walk_at "sm13") (by walk_at "fr13")
  | exact sameStep (by assumption) (by walk_at "sm13"))
local macro_rules | `(tactic| walk_at "sm13") => `(tactic| first
  | exact Same.refl _
  | assumption
  | exact sameStep (New.same (by assumption)) (by walk_at "sm14")
  | exact Chg.sameOwn (by assumption) (by walk_at "sm14") (by walk_at "fr14")
  | exact sameStep (by assumption) (by walk_at "sm14"))
local macro_rules | `(tactic| walk_at "sm14") => `(tactic| first
  | exact Same.refl _
  | assumption
  | exact sameStep (New.same (by assumption)) (by walk_at "sm15")
  | exact Chg.sameOwn (by assumption) (by walk_at "sm15") (by walk_at "fr15")
  | exact sameStep (by assumption) (by walk_at "sm15"))
local macro_rules | `(tactic| walk_at "sm15") => `(tactic| first
  | exact Same.refl _
  | assumption
  | exact sameStep (New.same (by assumption)) (by walk_at "sm16")
  | exact Chg.sameOwn (by assumption) (by walk_at "sm16") (by walk_at "fr16")
  | exact sameStep (by assumption) (by walk_at "sm16"))
local macro_rules | `(tactic| walk_at "sm16") => `(tactic| first
  | exact Same.refl _
  | assumption
  | exact sameStep (New.same (by assumption)) (by walk_at "sm17")
  | exact Chg.sameOwn (by assumption) (by walk_at "sm17") (by walk_at "fr17")
  | exact sameStep (by assumption) (by walk_at "sm17"))
local macro_rules | `(tactic| walk_at "sm17") => `(tactic| first
  | exact Same.refl _
  | assumption
  | exact sameStep (New.same (by assumption)) (by walk_at "sm18")
  | exact Chg.sameOwn (by assumption) (by walk_at "sm18") (by walk_at "fr18")
  | exact sameStep (by assumption) (by walk_at "sm18"))
local macro_rules | `(tactic| walk_at "sm18") => `(tactic| first
  | exact Same.refl _
  | assumption
  | exact sameStep (New.same (by assumption)) (by walk_at "sm19")
  | exact Chg.sameOwn (by assumption) (by walk_at "sm19") (by walk_at "fr19")
  | exact sameStep (by assumption) (by walk_at "sm19"))
local macro_rules | `(tactic| walk_at "sm19") => `(tactic| first
  | exact Same.refl _
  | assumption
  | exact sameStep (New.same (by assumption)) (by walk_at "sm20")
  | exact Chg.sameOwn (by assumption) (by walk_at "sm20") (by walk_at "fr20")
  | exact sameStep (by assumption) (by walk_at "sm20"))
local macro_rules | `(tactic| walk_at "sm20") => `(tactic| first
  | exact Same.refl _
  | assumption
  | exact sameStep (New.same (by assumption)) (by walk_at "sm21")
  | exact Chg.sameOwn (by assumption) (by walk_at "sm21") (by walk_at "fr21")
  | exact sameStep (by assumption) (by walk_at "sm21"))
local macro_rules | `(tactic| walk_at "sm21") => `(tactic| first
  | exact Same.refl _
  | assumption
  | exact sameStep (New.same (by assumption)) (by walk_at "sm22")
  | exact Chg.sameOwn (by assumption) (by walk_at "sm22") (by walk_at "fr22")
  | exact sameStep (by assumption) (by walk_at "sm22"))
local macro_rules | `(tactic| walk_at "sm22") => `(tactic| first
  | exact Same.refl _
  | assumption
  | exact sameStep (New.same (by assumption)) (by walk_at "sm23")
  | exact Chg.sameOwn (by assumption) (by walk_at "sm23") (by walk_at "fr23")
  | exact sameStep (by assumption) (by walk_at "sm23"))
local macro_rules | `(tactic| walk_at "sm23") => `(tactic| first
  | exact Same.refl _
  | assumption
  | exact sameStep (New.same (by assumption)) (by walk_at "sm24")
  | exact Chg.sameOwn (by assumption) (by walk_at "sm24") (by walk_at "fr24")
  | exact sameStep (by assumption) (by walk_at "sm24"))
local macro_rules | `(tactic| walk_at "sm24") => `(tactic| assumption)
local macro_rules | `(tactic| walk_at "fr") => `(tactic| first
  | assumption
  | exact New.free (by assumption)
  | exact freeBack (New.free (by assumption)) (by walk_at "sm1"))
local macro_rules | `(tactic| walk_at "fr1") => `(tactic| first
  | assumption
  | exact New.free (by assumption)
  | exact freeBack (New.free (by assumption)) (by walk_at "sm2"))
local macro_rules | `(tactic| walk_at "fr2") => `(tactic| first
  | assumption
  | exact New.free (by assumption)
  | exact freeBack (New.free (by assumption)) (by walk_at "sm3"))
local macro_rules | `(tactic| walk_at "fr3") => `(tactic| first
  | assumption
  | exact New.free (by assumption)
  | exact freeBack (New.free (by assumption)) (by walk_at "sm4"))
local macro_rules | `(tactic| walk_at "fr4") => `(tactic| first
  | assumption
  | exact New.free (by assumption)
  | exact freeBack (New.free (by assumption)) (by walk_at "sm5"))
local macro_rules | `(tactic| walk_at "fr5") => `(tactic| first
  | assumption
  | exact New.free (by assumption)
  | exact freeBack (New.free (by assumption)) (by walk_at "sm6"))
local macro_rules | `(tactic| walk_at "fr6") => `(tactic| first
  | assumption
  | exact New.free (by assumption)
  | exact freeBack (New.free (by assumption)) (by walk_at "sm7"))
local macro_rules | `(tactic| walk_at "fr7") => `(tactic| first
  | assumption
  | exact New.free (by assumption)
  | exact freeBack (New.free (by assumption)) (by walk_at "sm8"))
local macro_rules | `(tactic| walk_at "fr8") => `(tactic| first
  | assumption
  | exact New.free (by assumption)
  | exact freeBack (New.free (by assumption)) (by walk_at "sm9"))
local macro_rules | `(tactic| walk_at "fr9") => `(tactic| first
  | assumption
  | exact New.free (by assumption)
  | exact freeBack (New.free (by assumption)) (by walk_at "sm10"))
local macro_rules | `(tactic| walk_at "fr10") => `(tactic| first
  | assumption
  | exact New.free (by assumption)
  | exact freeBack (New.free (by assumption)) (by walk_at "sm11"))
local macro_rules | `(tactic| walk_at "fr11") => `(tactic| first
  | assumption
  | exact New.free (by assumption)
  | exact freeBack (New.free (by assumption)) (by walk_at "sm12"))
local macro_rules | `(tactic| walk_at "fr12") => `(tactic| first
  | assumption
  | exact New.free (by assumption)
  | exact freeBack (New.free (by assumption)) (by walk_at "sm13"))
local macro_rules | `(tactic| walk_at "fr13") => `(tactic| first
  | assumption
  | exact New.free (by assumption)
  | exact freeBack (New.free (by assumption)) (by walk_at "sm14"))
local macro_rules | `(tactic| walk_at "fr14") => `(tactic| first
  | assumption
  | exact New.free (by assumption)
  | exact freeBack (New.free (by assumption)) (by walk_at "sm15"))
local macro_rules | `(tactic| walk_at "fr15") => `(tactic| first
  | assumption
  | exact New.free (by assumption)
  | exact freeBack (New.free (by assumption)) (by walk_at "sm16"))
local macro_rules | `(tactic| walk_at "fr16") => `(tactic| first
  | assumption
  | exact New.free (by assumption)
  | exact freeBack (New.free (by assumption)) (by walk_at "sm17"))
local macro_rules | `(tactic| walk_at "fr17") => `(tactic| first
  | assumption
  | exact New.free (by assumption)
  | exact freeBack (New.free (by assumption)) (by walk_at "sm18"))
local macro_rules | `(tactic| walk_at "fr18") => `(tactic| first
  | assumption
  | exact New.free (by assumption)
  | exact freeBack (New.free (by assumption)) (by walk_at "sm19"))
local macro_rules | `(tactic| walk_at "fr19") => `(tactic| first
  | assumption
  | exact New.free (by assumption)
  | exact freeBack (New.free (by assumption)) (by walk_at "sm20"))
local macro_rules | `(tactic| walk_at "fr20") => `(tactic| first
  | assumption
  | exact New.free (by assumption)
  | exact freeBack (New.free (by assumption)) (by walk_at "sm21"))
local macro_rules | `(tactic| walk_at "fr21") => `(tactic| first
  | assumption
  | exact New.free (by assumption)
  | exact freeBack (New.free (by assumption)) (by walk_at "sm22"))
local macro_rules | `(tactic| walk_at "fr22") => `(tactic| first
  | assumption
  | exact New.free (by assumption)
  | exact freeBack (New.free (by assumption)) (by walk_at "sm23"))
local macro_rules | `(tactic| walk_at "fr23") => `(tactic| first
  | assumption
  | exact New.free (by assumption)
  | exact freeBack (New.free (by assumption)) (by walk_at "sm24"))
local macro_rules | `(tactic| walk_at "fr24") => `(tactic| assumption)
local macro_rules | `(tactic| walk_at "ci") => `(tactic| first | decide | exact ⟨by decide, by decide⟩ | assumption | exact cmR (by decide) (by decide) | exact cmL (by decide) (by decide) | exact cmR (by omega) (by omega) | exact cmL (by omega) (by omega) | exact dvW (by omega) (by omega) | omega)
local macro_rules | `(tactic| walk_at "sz") => `(tactic| (have hzz := sizeLine_eq; (try simp only [List.length_append, List.length_cons, List.length_nil, List.length_map, List.length_replicate]); (first | done | omega)))
local macro_rules | `(tactic| walk_at "at") => `(tactic| first | assumption | exact rfl | exact atI_nat (by assumption))
local macro_rules | `(tactic| walk_at "ty") => `(tactic| first
  | exact .base .non
  | exact .base (.bl _)
  | exact .base (.int _)
  | exact .base (.str _)
  | exact .base (.tup (by walk_at "look"))
  | exact .base (.lst (by walk_at "look"))
  | exact .base (.dK (by walk_at "look")))
local macro_rules | `(tactic| walk_at "bt") => `(tactic| first
  | exact fun _ _ e _ => e
  | assumption
  | exact Chg.butStep (by assumption) (by walk_at "bt1")
  | exact butStep (New.same (by assumption)) (by walk_at "bt1"))
local macro_rules | `(tactic| walk_at "bt1") => `(tactic| first
  | exact fun _ _ e _ => e
  | assumption
  | exact Chg.butStep (by assumption) (by walk_at "bt2")
  | exact butStep (New.same (by assumption)) (by walk_at "bt2"))
local macro_rules | `(tactic| walk_at "bt2") => `(tactic| first
  | exact fun _ _ e _ => e
  | assumption
  | exact Chg.butStep (by assumption) (by walk_at "bt3")
  | exact butStep (New.same (by assumption)) (by walk_at "bt3"))
local macro_rules | `(tactic| walk_at "bt3") => `(tactic| first
  | exact fun _ _ e _ => e
  | assumption
  | exact Chg.butStep (by assumption) (by walk_at "bt4")
  | exact butStep (New.same (by assumption)) (by walk_at "bt4"))
local macro_rules | `(tactic| walk_at "bt4") => `(tactic| first
  | exact fun _ _ e _ => e
  | assumption
  | exact Chg.butStep (by assumption) (by walk_at "bt5")
  | exact butStep (New.same (by assumption)) (by walk_at "bt5"))
local macro_rules | `(tactic| walk_at "bt5") => `(tactic| first
  | exact fun _ _ e _ => e
  | assumption
  | exact Chg.butStep (by assumption) (by walk_at "bt6")
  | exact butStep (New.same (by assumption)) (by walk_at "bt6"))
local macro_rules | `(tactic| walk_at "bt6") => `(tactic| first
  | exact fun _ _ e _ => e
  | assumption
  | exact Chg.butStep (by assumption) (by walk_at "bt7")
  | exact butStep (New.same (by assumption)) (by walk_at "bt7"))
local macro_rules | `(tactic| walk_at "bt7") => `(tactic| first
  | exact fun _ _ e _ => e
  | assumption
  | exact Chg.butStep (by assumption) (by walk_at "bt8")
  | exact butStep (New.same (by assumption)) (by walk_at "bt8"))
local macro_rules | `(tactic| walk_at "bt8") => `(tactic| first
  | exact fun _ _ e _ => e
  | assumption
  | exact Chg.butStep (by assumption) (by walk_at "bt9")
  | exact butStep (New.same (by assumption)) (by walk_at "bt9"))
local macro_rules | `(tactic| walk_at "bt9") => `(tactic| first
  | exact fun _ _ e _ => e
  | assumption
  | exact Chg.butStep (by assumption) (by walk_at "bt10")
  | exact butStep (New.same (by assumption)) (by walk_at "bt10"))
local macro_rules | `(tactic| walk_at "bt10") => `(tactic| first
  | exact fun _ _ e _ => e
  | assumption
  | exact Chg.butStep (by assumption) (by walk_at "bt11")
  | exact butStep (New.same (by assumption)) (by walk_at "bt11"))
local macro_rules | `(tactic| walk_at "bt11") => `(tactic| first
  | exact fun _ _ e _ => e
  | assumption
  | exact Chg.butStep (by assumption) (by walk_at "bt12")
  | exact butStep (New.same (by assumption)) (by walk_at "bt12"))
local macro_rules | `(tactic| walk_at "bt12") => `(tactic| first
  | exact fun _ _ e _ => e
  | assumption
  | exact Chg.butStep (by assumption) (by walk_at "bt13")
  | exact butStep (New.same (by assumption)) (by walk_at "bt13"))
local macro_rules | `(tactic| walk_at "bt13") => `(tactic| first
  | exact fun _ _ e _ => e
  | assumption
  | exact Chg.butStep (by assumption) (by walk_at "bt14")
  | exact butStep (New.same (by assumption)) (by walk_at "bt14"))
local macro_rules | `(tactic| walk_at "bt14") => `(tactic| first
  | exact fun _ _ e _ => e
  | assumption
  | exact Chg.butStep (by assumption) (by walk_at "bt15")
  | exact butStep (New.same (by assumption)) (by walk_at "bt15"))
local macro_rules | `(tactic| walk_at "bt15") => `(tactic| first
  | exact fun _ _ e _ => e
  | assumption
  | exact Chg.butStep (by assumption) (by walk_at "bt16")
  | exact butStep (New.same (by assumption)) (by walk_at "bt16"))
local macro_rules | `(tactic| walk_at "bt16") => `(tactic| first
  | exact fun _ _ e _ => e
  | assumption
  | exact Chg.butStep (by assumption) (by walk_at "bt17")
  | exact butStep (New.same (by assumption)) (by walk_at "bt17"))
local macro_rules | `(tactic| walk_at "bt17") => `(tactic| first
  | exact fun _ _ e _ => e
  | assumption
  | exact Chg.butStep (by assumption) (by walk_at "bt18")
  | exact butStep (New.same (by assumption)) (by walk_at "bt18"))
local macro_rules | `(tactic| walk_at "bt18") => `(tactic| first
  | exact fun _ _ e _ => e
  | assumption
  | exact Chg.butStep (by assumption) (by walk_at "bt19")
  | exact butStep (New.same (by assumption)) (by walk_at "bt19"))
local macro_rules | `(tactic| walk_at "bt19") => `(tactic| first
  | exact fun _ _ e _ => e
  | assumption
  | exact Chg.butStep (by assumption) (by walk_at "bt20")
  | exact butStep (New.same (by assumption)) (by walk_at "bt20"))
local macro_rules | `(tactic| walk_at "bt20") => `(tactic| first
  | exact fun _ _ e _ => e
  | assumption
  | exact Chg.butStep (by assumption) (by walk_at "bt21")
  | exact butStep (New.same (by assumption)) (by walk_at "bt21"))
local macro_rules | `(tactic| walk_at "bt21") => `(tactic| first
  | exact fun _ _ e _ => e
  | assumption
  | exact Chg.butStep (by assumption) (by walk_at "bt22")
  | exact butStep (New.same (by assumption)) (by walk_at "bt22"))
local macro_rules | `(tactic| walk_at "bt22") => `(tactic| first
  | exact fun _ _ e _ => e
  | assumption
  | exact Chg.butStep (by assumption) (by walk_at "bt23")
  | exact butStep (New.same (by assumption)) (by walk_at "bt23"))
local macro_rules | `(tactic| walk_at "bt23") => `(tactic| first
  | exact fun _ _ e _ => e
  | assumption
  | exact Chg.butStep (by assumption) (by walk_at "bt24")
  | exact butStep (New.same (by assumption)) (by walk_at "bt24"))
local macro_rules | `(tactic| walk_at "bt24") => `(tactic| assumption)
local macro_rules | `(tactic| walk_at "isij") => `(tactic| first
  | assumption
  | exact IsiAt.hk (by assumption) 0 _ (by exact rfl)
  | exact IsiAt.hk (by assumption) 1 _ (by exact rfl)
  | exact IsiAt.hk (by assumption) 2 _ (by exact rfl)
  | exact IsiAt.hk (by assumption) 3 _ (by exact rfl)
  | exact IsiAt.hk (by assumption) 4 _ (by exact rfl)
  | exact IsiAt.hk (by assumption) 5 _ (by exact rfl)
  | exact IsiAt.hk (by assumption) 6 _ (by exact rfl)
  | exact IsiAt.hk (by assumption) 7 _ (by exact rfl)
  | exact IsiAt.hk (by assumption) 8 _ (by exact rfl)
  | exact IsiAt.hk (by assumption) 9 _ (by exact rfl)
  | exact IsiAt.hk (by assumption) 10 _ (by exact rfl)
  | exact IsiAt.hk (by assumption) 11 _ (by exact rfl)
  | exact IsiAt.hk (by assumption) 12 _ (by exact rfl)
  | exact IsiAt.hk (by assumption) 13 _ (by exact rfl)
  | exact IsiAt.hk (by assumption) 14 _ (by exact rfl)
  | exact IsiAt.hk (by assumption) 15 _ (by exact rfl)
  | exact IsiAt.hk (by assumption) 16 _ (by exact rfl)
  | exact IsiAt.hk (by assumption) 17 _ (by exact rfl)
  | exact IsiAt.hk (by assumption) 18 _ (by exact rfl))
local macro_rules | `(tactic| walk_at "sy1") => `(tactic| first
  | with_reducible refine w_seq ?_
  | with_reducible refine w_asg ?_
  | ((with_reducible apply w_var); (· exact rfl))
  | with_reducible refine w_C ?_
  | ((with_reducible refine w_name ?_); intro σ' e; (first | dsimp only [List.set] at e | dsimp only [L2.start, L2.wipe, List.map, List.length_cons, List.length_nil, Nat.reduceAdd, Nat.reduceSub, List.replicate, List.cons_append, List.nil_append, List.append, List.set] at e); subst e)
  | with_reducible refine w_nx ?_
  | with_reducible refine w_cons ?_
  | with_reducible refine w_nil ?_
  | with_reducible refine w_op ?_
  | with_reducible refine w_rI0 ?_
  | ((with_reducible apply w_rI); (· walk_at "ci"))
  | with_reducible refine w_call ?_
  | with_reducible refine w_ifS ?_
  | with_reducible refine w_tup ?_
  | with_reducible refine w_lst ?_
  | ((with_reducible apply w_newT); (· walk_at "sz"); intro p H' n)
  | ((with_reducible apply w_newL); (· walk_at "sz"); intro p H' n)
  | with_reducible refine w_test ?_
  | with_reducible refine w_tB ?_
  | with_reducible refine w_rEqI ?_
  | with_reducible refine w_rEqS ?_
  | with_reducible refine w_rNeI ?_
  | with_reducible refine w_rNeS ?_
  | with_reducible refine w_blB ?_
  | with_reducible refine iteDT rfl ?_
  | ((with_reducible apply iteDT); (· (first | omega | assumption)))
  | ((with_reducible apply iteDF); (· (first | omega | assumption | exact (fun h => V.noConfusion h) | (with_reducible exact (by decide +kernel)))))
  | ((with_reducible apply iteBT); (· (first | exact rfl | assumption | decide +kernel)))
  | ((with_reducible apply iteBF); (· (first | exact rfl | assumption | decide +kernel)))
  | ((with_reducible apply iteNF); (· (first | exact rfl | omega | assumption)))
  | ((with_reducible apply iteNT); (· (first | omega | assumption | exact (fun h => V.noConfusion h))))
  | with_reducible refine w_next ?_
  | ((with_reducible apply w_ixT); (· walk_at "look"); (· walk_at "at"))
  | ((with_reducible apply w_ixL); (· walk_at "look"); (· walk_at "at"))
  | with_reducible refine w_cb ?_
  | ((with_reducible apply w_lenT); (· walk_at "look"))
  | ((with_reducible apply w_lenL); (· walk_at "look"))
  | with_reducible refine w_bm ?_
  | with_reducible refine w_bm0 ?_
  | ((with_reducible apply w_tyL); (· walk_at "look"))
  | ((with_reducible apply w_append); (· walk_at "look"); (· walk_at "sz"); intro H' c)
  | ((with_reducible apply w_setL); (· walk_at "look"); (· walk_at "at"); intro H' c)
  | with_reducible refine w_ret ?_
  | with_reducible refine w_retN ?_
  | with_reducible refine w_rt ?_
  | with_reducible refine w_bk ?_
  | with_reducible refine w_ct ?_
  | with_reducible refine w_break ?_
  | with_reducible refine w_cont ?_
  | with_reducible refine w_drop ?_
  | with_reducible refine w_if ?_
  | with_reducible refine w_and ?_
  | with_reducible refine w_or ?_
  | with_reducible refine w_not ?_
  | with_reducible refine w_andV ?_
  | with_reducible refine w_orV ?_
  | with_reducible refine w_notV ?_
  | with_reducible refine w_isN ?_
  | with_reducible refine w_notN ?_
  | with_reducible refine w_un ?_
  | with_reducible refine w_rU ?_
  | with_reducible refine w_fld ?_
  | ((with_reducible apply w_fld1); (· walk_at "look"); (· assumption); (· assumption); (· exact rfl))
  | with_reducible refine w_par ?_
  | with_reducible refine w_par1 ?_
  | ((with_reducible apply w_aug); (· exact rfl))
  | with_reducible refine w_for ?_
  | with_reducible refine w_iTup ?_
  | with_reducible refine w_iList ?_
  | ((with_reducible apply w_forT); (· walk_at "look"))
  | ((with_reducible apply w_forL); (· walk_at "look"))
  | ((with_reducible apply w_inT); (· walk_at "look"); (· exact rfl); (· exact rfl))
  | ((with_reducible apply w_inL); (· walk_at "look"); (· exact rfl); (· exact rfl))
  | with_reducible refine w_lc ?_
  | ((with_reducible apply w_wipe); (· exact rfl))
  | with_reducible refine w_yes ?_
  | ((with_reducible apply w_acc); (· walk_at "look"); (· walk_at "sz"); intro H' c)
  | with_reducible refine w_rng1 ?_
  | with_reducible refine w_rng2 ?_
  | ((with_reducible apply w_rng1a); (· omega); (· omega))
  | ((with_reducible apply w_rng2a); (· omega); (· omega); (· omega); (· omega))
  | ((with_reducible apply w_gTup); (· walk_at "look"); (· exact rfl))
  | with_reducible refine w_gCons ?_
  | with_reducible refine w_gNil ?_
  | ((with_reducible apply w_cat); (· walk_at "look"); (· walk_at "look"); (· walk_at "sz"); intro p H' n)
  | ((with_reducible apply w_rep); (· walk_at "look"); (· omega); (· omega); (· walk_at "sz"); intro p H' n)
  | with_reducible refine w_zipA ?_
  | ((with_reducible apply w_zipT); (· walk_at "look"); (· walk_at "look"))
  | with_reducible refine w_meth ?_
  | ((with_reducible apply w_meth1); (· walk_at "look"); (· exact rfl))
  | ((with_reducible apply w_tupOfL); (· walk_at "look"))
  | ((with_reducible apply w_tupOfT); (· walk_at "look"))
  | with_reducible refine w_intB ?_
  | with_reducible refine w_intI ?_
  | with_reducible refine w_sl ?_
  | with_reducible refine w_part ?_
  | with_reducible refine w_part1 ?_
  | with_reducible refine w_nopart ?_
  | ((with_reducible apply w_slL); (· walk_at "look"); intro p H' n)
  | ((with_reducible apply w_isi); (· walk_at "ty"); (· exact rfl))
  | ((with_reducible apply w_all); (· walk_at "look"))
  | with_reducible refine w_sfld ?_
  | ((with_reducible apply w_kset); (· walk_at "look"); (· assumption); (· assumption); (· first | exact (by decide : 0 < 1000) | exact (by decide : 1 < 1000) | exact (by decide : 2 < 1000) | exact (by decide : 3 < 1000) | exact (by decide : 4 < 1000) | exact (by decide : 5 < 1000) | exact (by decide : 6 < 1000) | exact (by decide : 12 < 1000) | exact (by decide : 7 < 1000) | exact (by decide : 8 < 1000) | exact (by decide : 9 < 1000) | exact (by decide : 10 < 1000) | exact (by decide : 11 < 1000)); intro H' c)
  | with_reducible refine w_make ?_
  | ((with_reducible apply w_isiO); (· walk_at "look"); (· assumption); (· assumption); (· assumption); (· assumption); (· assumption); (· walk_at "isij"))
  | with_reducible refine w_strS ?_
  | ((with_reducible apply w_strI); (· first | assumption | decide))
  | with_reducible refine w_m1 ?_
  | with_reducible refine w_m1a ?_
  | ((with_reducible apply w_addS); (· first | assumption | walk_at "sz"))
  | with_reducible refine w_gSub ?_
  | ((with_reducible intro l hl); generalize hX : upd _ l _ = H'; have n := newOf hl hX; clear hX)
  | walk_at "use")
local macro_rules | `(tactic| walk_at "sy") => `(tactic| repeat walk_at "sy1")
/-! ### draws -/
/-- a list that stays, whatever becomes of the object at p -/
def Stays (K : PySem.W.Frag) (H : Hp) (p a : Addr) (xs : List V) : Prop := ∀ H', SameBut p H H' → SqL K H' a xs
theorem Stays.of {K : PySem.W.Frag} {H0 H : Hp} {p a : Addr} {xs : List V} (h : SqL K H0 a xs) (s : Same H0 H) (f : H0 p = none) : Stays K H p a xs := fun H' b => Same.seq (fun x o e => b _ _ (s _ _ e) (ne_of_none e f)) h
theorem Stays.but {K : PySem.W.Frag} {H H' : Hp} {p a : Addr} {xs : List V} (h : Stays K H p a xs) (s : SameBut p H H') : Stays K H' p a xs := fun H2 b => h H2 (fun x o e n => b _ _ (s _ _ e n) n)
theorem Stays.now {K : PySem.W.Frag} {H : Hp} {p a : Addr} {xs : List V} (h : Stays K H p a xs) : SqL K H a xs := h H fun _ _ e _ => e
section
variable {P : Program} {w : World} {K : PySem.W.Frag} {mg : Str → Option Value} {base : Heap}
theorem w_lenS {H : Hp} {p : Addr} {xs : List V} {P : List V → Prop} (a : SqL K H p xs) (h : P xs) : ∃ p' ys, [V.ref p] = [.ref p'] ∧ (SqL K H p' ys ∨ SqT K H p' ys) ∧ P ys := ⟨p, xs, rfl, .inl a, h⟩
theorem w_ixS {H : Hp} {Q : VK} {p : Addr} {xs : List V} {i : Int} {v : V} (a : SqL K H p xs) (e : atI xs i = some v) (h : Q v H) : rIxL K (.ref p) (.int i) H Q := ⟨p, xs, i, v, rfl, rfl, a, e, h⟩
def spDraw (K : PySem.W.Frag) : Sp := fun vs H Q _ => ∃ (a tp : Addr) (ns : List Int) (k : Nat) (m : Int), vs = [.ref a, .ref tp, .int m] ∧ Stays K H tp a (ns.map V.int) ∧ H tp = some (.lst [.int (k : Int)]) ∧ k ≤ 1000000 ∧ 0 < m ∧
  ∀ (H' : Hp) (d : Int), Chg tp (.lst [.int (k : Int)]) (.lst [.int ((k + 1 : Nat) : Int)]) H H' → 0 ≤ d → d < m → Q (.int d) H'
theorem use_draw {H : Hp} {Q : VK} {E : XK} {a tp : Addr} {ns : List Int} {k : Nat} {m : Int} (h1 : Stays K H tp a (ns.map V.int)) (h2 : H tp = some (.lst [.int (k : Int)])) (h3 : k ≤ 1000000) (h4 : 0 < m)
    (q : ∀ (H' : Hp) (d : Int), Chg tp (.lst [.int (k : Int)]) (.lst [.int ((k + 1 : Nat) : Int)]) H H' → 0 ≤ d → d < m → Q (.int d) H') : spDraw K ([.ref a, .ref tp, .int m] ++ []) H Q E := ⟨a, tp, ns, k, m, rfl, h1, h2, h3, h4, q⟩
theorem ok_l_draw (T : Tx K mg) : FnOk P w K mg base CX0 1 T.f_l_draw T.d_l_draw ["_law_script", "_law_tape", "_law_many"] (spDraw K) := by
  refine T.F_l_draw.ok sc_l_draw (fun vs H Q E h => ?_) (fun cdv A outer s H vs Q E hr h => ?_)
  · obtain ⟨a, tp, ns, k, m, rfl, _⟩ := h
    rfl
  · obtain ⟨a, tp, ns, k, m, rfl, hS, htp, hk, hm, q⟩ := h
    refine ⟨_, (pss_cons (ps_set (i := 3) sc_l_draw.nd rfl (Or.inl rfl) (pe_ix (ix_listK (K := K) rfl) (pv 1) pe_int (fun _ _ => rfl)))
      (pss_cons (ps_asg (pe_op op_add (pv 3) pe_int) (pg_sub (pv 1) pe_int set_list))
      (pss_cons (ps_set (i := 4) sc_l_draw.nd rfl (Or.inl rfl) pe_int)
      (pss_cons (ps_if (pt_cmpR op_gt (pe_callB (len_seqK (K := K) rfl) (by rfl) T.n_len PySem.boot_len (pa_cons (pv 0) pa_nil)) pe_int (nomark _))
        (pss_one (ps_set (i := 4) sc_l_draw.nd rfl (Or.inl rfl) (pe_ix (ix_listK (K := K) rfl) (pv 0) (pe_op op_mod (pv 3) (pe_callB (len_seqK (K := K) rfl) (by rfl) T.n_len PySem.boot_len (pa_cons (pv 0) pa_nil))) (fun _ _ => rfl))))
        pss_nil)
      (pss_cons (ps_set (i := 5) sc_l_draw.nd rfl (Or.inl rfl) (pe_op op_mod (pe_op op_add (pe_op op_add (pe_op op_add (pe_op op_mul (pv 4) pe_int) (pe_op op_mul (pe_op op_mul pe_int (pv 3)) (pv 3))) (pe_op op_mul pe_int (pv 3))) pe_int) pe_int))
      (pss_cons (ps_set (i := 6) sc_l_draw.nd rfl (Or.inl rfl) (pe_op op_mod (pe_op op_mul (pe_op op_mod (pe_op op_mul (pv 5) (pv 5)) pe_int) pe_int) pe_int))
      (pss_one (ps_ret (pe_op op_mod (pe_op op_fdiv (pe_op op_mod (pe_op op_mul (pv 6) (pv 6)) pe_int) pe_int) (pv 2)))))))))), ?_⟩
    walk_at "sy"
    rename_i H1 c1
    have hS1 := (hS.but c1.but).now
    have fin : ∀ x : Int, Q (.int (x % m)) H1 := fun x => q H1 _ c1 (Int.emod_nonneg _ (by omega)) (Int.emod_lt_of_pos _ hm)
    refine w_lenS hS1 ?_
    walk_at "sy"
    by_cases h0 : 0 < (ns.map V.int).length
    · refine iteDT (by omega) ?_
      walk_at "sy"
      refine w_lenS hS1 ?_
      have m0 := Int.emod_nonneg (k : Int) (show ((ns.map V.int).length : Int) ≠ 0 by omega)
      have m1 := Int.emod_lt_of_pos (k : Int) (show (0 : Int) < ((ns.map V.int).length : Int) by omega)
      walk_at "sy"
      obtain ⟨j, hj⟩ : ∃ j : Nat, (k : Int) % ((ns.map V.int).length : Int) = (j : Int) := ⟨_, (Int.toNat_of_nonneg m0).symm⟩
      have hjl : j < ns.length := by
        rw [hj, List.length_map] at m1
        omega
      refine w_ixS (v := .int ns[j]) hS1 ?_ ?_
      · rw [hj]
        exact atI_nat (by rw [List.getElem?_map, List.getElem?_eq_getElem hjl]; rfl)
      generalize ns[j] = z
      walk_at "sy"
      exact fin _
    · refine iteDF (by omega) ?_
      walk_at "sy"
      exact fin _
end
/-! ### data that stays: none, numbers, texts, tuples of such -/
inductive Dt where
  | non
  | int (i : Int)
  | str (s : Str)
  | tup (ds : List Dt)
mutual
def dpt : Dt → Nat
  | .tup ds => 1 + dpts ds
  | _ => 0
def dpts : List Dt → Nat
  | [] => 0
  | d :: ds => max (dpt d) (dpts ds)
end
mutual
def smallD : Dt → Prop
  | .tup ds => ds.length ≤ 1000 ∧ smallDs ds
  | _ => True
def smallDs : List Dt → Prop
  | [] => True
  | d :: ds => smallD d ∧ smallDs ds
end
mutual
def IsD (H : Hp) : Dt → V → Prop
  | .non, v => v = .non
  | .int i, v => v = .int i
  | .str s, v => v = .str s
  | .tup ds, v => ∃ p vs, v = .ref p ∧ H p = some (.tup vs) ∧ IsDs H ds vs
def IsDs (H : Hp) : List Dt → List V → Prop
  | [], vs => vs = []
  | d :: ds, vs => ∃ v r, vs = v :: r ∧ IsD H d v ∧ IsDs H ds r
end
mutual
theorem IsD.keep {H H' : Hp} (k : Keep H H') : ∀ {d : Dt} {v : V}, IsD H d v → IsD H' d v
  | .non, _, h => h
  | .int _, _, h => h
  | .str _, _, h => h
  | .tup _, _, ⟨p, vs, e, h, g⟩ => ⟨p, vs, e, k _ _ h trivial, IsDs.keep k g⟩
theorem IsDs.keep {H H' : Hp} (k : Keep H H') : ∀ {ds : List Dt} {vs : List V}, IsDs H ds vs → IsDs H' ds vs
  | [], _, h => h
  | _ :: _, _, ⟨v, r, e, h, g⟩ => ⟨v, r, e, IsD.keep k h, IsDs.keep k g⟩
end
theorem IsDs.len {H : Hp} : ∀ {ds : List Dt} {vs : List V}, IsDs H ds vs → vs.length = ds.length
  | [], _, h => by
    have h : _ = _ := h
    subst h
    rfl
  | _ :: ds, _, ⟨v, r, e, _, h2⟩ => by
    subst e
    simp [IsDs.len h2]
theorem IsDs.get {H : Hp} : ∀ {ds : List Dt} {vs : List V} {i : Nat} {d : Dt}, IsDs H ds vs → ds[i]? = some d → ∃ v, vs[i]? = some v ∧ IsD H d v
  | _ :: ds, _, 0, d, ⟨v, r, e, h1, _⟩, h => by
    subst e
    simp at h
    subst h
    exact ⟨v, rfl, h1⟩
  | _ :: ds, _, i + 1, d, ⟨v, r, e, _, h2⟩, h => by
    subst e
    obtain ⟨w, q1, q2⟩ := IsDs.get (i := i) h2 (by simpa using h)
    exact ⟨w, by simpa using q1, q2⟩
theorem IsDs.at {H : Hp} {ds : List Dt} {vs : List V} {i : Nat} {v : V} (h : IsDs H ds vs) (e : vs[i]? = some v) : ∃ d, ds[i]? = some d ∧ IsD H d v := by
  have hi := (List.getElem?_eq_some_iff.mp e).1
  rw [h.len] at hi
  obtain ⟨w, h1, h2⟩ := h.get (List.getElem?_eq_getElem hi)
  rw [e] at h1
  cases h1
  exact ⟨_, List.getElem?_eq_getElem hi, h2⟩
theorem IsDs.snoc {H : Hp} {d : Dt} {v : V} (h : IsD H d v) : ∀ {ds : List Dt} {vs : List V}, IsDs H ds vs → IsDs H (ds ++ [d]) (vs ++ [v])
  | [], _, e => by
    have e : _ = _ := e
    subst e
    exact ⟨v, [], rfl, h, rfl⟩
  | _ :: _, _, ⟨w, r, e, h1, h2⟩ => by
    subst e
    exact ⟨w, _, rfl, h1, IsDs.snoc h h2⟩
theorem dpt_mem : ∀ {ds : List Dt} {d : Dt}, d ∈ ds → dpt d ≤ dpts ds
  | a :: ds, d, h => by
    simp only [dpts]
    rcases List.mem_cons.mp h with e | h
    · subst e
      omega
    · have := dpt_mem h
      omega
theorem small_mem : ∀ {ds : List Dt} {d : Dt}, smallDs ds → d ∈ ds → smallD d
  | a :: ds, d, h, m => by
    rcases List.mem_cons.mp m with e | m
    · subst e
      exact h.1
    · exact small_mem h.2 m
/-! ### alike -/
section
variable {P : Program} {w : World} {K : PySem.W.Frag} {mg : Str → Option Value} {base : Heap}
def spAlike (n : Nat) : Sp := fun vs H Q _ => ∃ (v u : V) (d : Dt), vs = [v, u] ∧ IsD H d v ∧ IsD H d u ∧ dpt d < n ∧ smallD d ∧ ∀ H', Same H H' → Q (.bl true) H'
theorem use_alike {H : Hp} {Q : VK} {E : XK} {n : Nat} {v u : V} (d : Dt) (h1 : IsD H d v) (h2 : IsD H d u) (h3 : dpt d < n) (h4 : smallD d) (q : ∀ H', Same H H' → Q (.bl true) H') : spAlike n ([v, u] ++ []) H Q E := ⟨v, u, d, rfl, h1, h2, h3, h4, q⟩
theorem all_true : ∀ n : Nat, (List.replicate n true).all id = true
  | 0 => rfl
  | n + 1 => by simp [List.replicate_succ, all_true n]
theorem rep_snoc {n : Nat} : List.replicate (n + 1) (V.bl true) = List.replicate n (V.bl true) ++ [V.bl true] := List.replicate_succ'
theorem ok_l_alike (T : Tx K mg) : ∀ n : Nat, FnOk P w K mg base CX0 (n + 1) T.f_l_alike T.d_l_alike ["_law_found", "_law_due"] (spAlike n)
  | 0 => T.F_l_alike.ok sc_l_alike (fun vs H Q E ⟨_, _, _, _, _, _, h, _⟩ => absurd h (Nat.not_lt_zero _)) (fun cdv A outer s H vs Q E hr ⟨_, _, _, _, _, _, h, _⟩ => absurd h (Nat.not_lt_zero _))
  | n + 1 => by
    have ih := ok_l_alike T n
    refine T.F_l_alike.ok sc_l_alike (fun vs H Q E h => ?_) (fun cdv A outer s H vs Q E hr h => ?_)
    · obtain ⟨v, u, d, rfl, _⟩ := h
      rfl
    · obtain ⟨v, u, d, rfl, hv, hu, hd, hs, q⟩ := h
      refine ⟨_, (pss_cons (ps_if (pt_val (pe_callB (isiK (K := K) rfl) (by rfl) T.n_isinstance PyProof.Rows.boot_isinstance (pa_cons (pv 1) (pa_cons (pe_bltn (v := .ty "tuple") (by rfl) T.n_tuple PyProof.Rows.boot_tuple rfl) pa_nil))))
        (pss_cons (ps_if (PW.pt (pw_or (pt_not (pt_val (pe_callB (isiK (K := K) rfl) (by rfl) T.n_isinstance PyProof.Rows.boot_isinstance (pa_cons (pv 0) (pa_cons (pe_bltn (v := .ty "tuple") (by rfl) T.n_tuple PyProof.Rows.boot_tuple rfl) pa_nil))))) (pw_or1 (pt_cmpR op_ne (pe_callB (len_seqK (K := K) rfl) (by rfl) T.n_len PySem.boot_len (pa_cons (pv 0) pa_nil)) (pe_callB (len_seqK (K := K) rfl) (by rfl) T.n_len PySem.boot_len (pa_cons (pv 1) pa_nil)) (nomark _)))))
          (pss_one (ps_ret pe_bl))
          pss_nil)
        (pss_one (ps_ret (pe_callB (cr_allK (K := K) rfl rfl) (by rfl) T.n_all (by decide +kernel) (pa_cons (pe_lc (own := [("_law_one", 2), ("_law_other", 3)]) (tt := tYes) rfl sc_l_alike.nd (pi_zipAK (K := K) rfl (by rfl) T.n_zip (pa_cons (pv 0) (pa_cons (pv 1) pa_nil))) (blkOk_by (own := [("_law_one", 2), ("_law_other", 3)]) (N := ["_law_found", "_law_due", "_law_one", "_law_other"]) (sc := defScope s_l_alike) (by decide +kernel)) (fun _ _ _ _ _ => pg_tupK (K := K) (n := 2) rfl rfl (pgs_cons (pg_name (i := 2) sc_l_alike.nd rfl (Or.inl rfl)) (pgs_cons (pg_name (i := 3) sc_l_alike.nd rfl (Or.inl rfl)) pgs_nil))) (fun _ _ _ _ _ => pts_nil) (fun _ _ _ _ _ => (pe_call ih (hr.mono (by omega)) rfl T.m_l_alike T.F_l_alike.kp T.B_l_alike .nil pass0 (pa_cons (pv 2) (pa_cons (pv 3) pa_nil))))) pa_nil)))))
        pss_nil)
      (pss_cons (ps_if (pt_cmp (pc_isN (pv 1)))
        (pss_one (ps_ret (pe_cmp (pc_isN (pv 0)) rfl)))
        pss_nil)
      (pss_cons (ps_if (pt_val (pe_callB (isiK (K := K) rfl) (by rfl) T.n_isinstance PyProof.Rows.boot_isinstance (pa_cons (pv 1) (pa_cons (pe_bltn (v := .ty "int") (by rfl) T.n_int PyProof.Rows.boot_int rfl) pa_nil))))
        (pss_one (ps_ret (pe_and (pe_callB (isiK (K := K) rfl) (by rfl) T.n_isinstance PyProof.Rows.boot_isinstance (pa_cons (pv 0) (pa_cons (pe_bltn (v := .ty "int") (by rfl) T.n_int PyProof.Rows.boot_int rfl) pa_nil))) (pe_and (pe_not (pe_callB (isiK (K := K) rfl) (by rfl) T.n_isinstance PyProof.Rows.boot_isinstance (pa_cons (pv 0) (pa_cons (pe_bltn (v := .ty "bool") (by rfl) T.n_bool (by decide +kernel) rfl) pa_nil)))) (pe_one ((pe_cmpR op_eq (pv 0) (pv 1) (nomark _))))))))
        pss_nil)
      (pss_one (ps_ret (pe_and (pe_callB (isiK (K := K) rfl) (by rfl) T.n_isinstance PyProof.Rows.boot_isinstance (pa_cons (pv 0) (pa_cons (pe_bltn (v := .ty "str") (by rfl) T.n_str PyProof.Rows.boot_str rfl) pa_nil))) (pe_one ((pe_cmpR op_eq (pv 0) (pv 1) (nomark _)))))))))), ?_⟩
      cases d with
      | non =>
        obtain rfl : v = .non := hv
        obtain rfl : u = .non := hu
        walk_at "sy"
        exact q _ (Same.refl _)
      | int i =>
        obtain rfl : v = .int i := hv
        obtain rfl : u = .int i := hu
        walk_at "sy"
        rw [decide_eq_true rfl]
        exact q _ (Same.refl _)
      | str s =>
        obtain rfl : v = .str s := hv
        obtain rfl : u = .str s := hu
        walk_at "sy"
        rw [decide_eq_true rfl]
        exact q _ (Same.refl _)
      | tup ds =>
        obtain ⟨p, vs, rfl, hp, hvs⟩ := hv
        obtain ⟨r, us, rfl, hr', hus⟩ := hu
        have hl1 := hvs.len
        have hl2 := hus.len
        have hs1 := hs.1
        simp only [dpt] at hd
        walk_at "sy"
        refine k_lcZ vs us (by omega) (fun D i H2 => Same H H2 ∧ H2 D = some (.lst (List.replicate i (.bl true)))) (fun D H' n => ⟨n.same, n.at_⟩) (fun D i H2 h => ⟨SqT.of (h.1 _ _ hp), SqT.of (h.1 _ _ hr')⟩) ?_ ?_
        · rintro D hD i x y Tt H2 H3 hx hy ⟨sx, hDx⟩ nT
          obtain ⟨d, hd1, hd2⟩ := hvs.at hx
          obtain ⟨d', hd1', hd2'⟩ := hus.at hy
          rw [hd1] at hd1'
          cases hd1'
          have hm := List.mem_of_getElem? hd1
          have hdm := dpt_mem hm
          have hi := (List.getElem?_eq_some_iff.mp hx).1
          walk_at "sy"
          refine use_alike d (hd2.keep (by walk_at "kp")) (hd2'.keep (by walk_at "kp")) (by omega) (small_mem hs.2 hm) (fun H4 s4 => ?_)
          walk_at "sy"
          rename_i H5 c5
          refine ⟨c5.sameOwn (Same.trans (nT.same.trans s4) (Same.refl _) |> sx.trans) hD, ?_⟩
          rw [rep_snoc]
          exact c5.at_
        · rintro D hD H2 ⟨sx, hDx⟩
          walk_at "sy"
          refine w_all (bs := List.replicate vs.length true) (by rw [List.map_replicate]; exact hDx) ?_
          rw [all_true]
          exact q _ sx
end
/-! ### rows as data -/
inductive At where
  | num (n : Nat)
  | nam (s : Str)
inductive Gv where
  | at (a : At)
  | path (p : List Str)
def atD : At → Dt
  | .num n => .int (n : Int)
  | .nam s => .str s
def pathD (p : List Str) : Dt := .tup (p.map Dt.str)
def gvD : Gv → Dt
  | .at a => atD a
  | .path p => pathD p
def optD : Option Str → Dt
  | none => .non
  | some s => .str s
def modeS (h : Bool) : Str := if h = true then "hand" else "look"
inductive Rw where
  | set (x0 : Str) (x1 : At) (x2 : Str) (x3 : At)
  | make (x0 : Str) (x1 : Str) (x2 : List At)
  | non (x0 : Str) (x1 : Str)
  | give (x0 : Str) (x1 : Str)
  | take (x0 : Str) (x1 : List Str)
  | fill (x0 : List Str) (x1 : Str)
  | swap (x0 : Str) (x1 : List Str)
  | get (x0 : Str) (x1 : List Str)
  | put (x0 : List Str) (x1 : At)
  | has (x0 : Str) (x1 : List Str)
  | drop (x0 : Str)
  | lend (x0 : Bool) (x1 : Str) (x2 : List Str)
  | step (x0 : Str) (x1 : Str)
  | call (x0 : Option Str) (x1 : Str) (x2 : List Gv)
  | back (x0 : At)
  | ask (x0 : Str)
  | tell (x0 : At)
/-- what the fields hold -/
def argsD : Rw → List Dt
  | .set x0 x1 x2 x3 => [Dt.str x0, atD x1, Dt.str x2, atD x3]
  | .make x0 x1 x2 => [Dt.str x0, Dt.str x1, Dt.tup (x2.map atD)]
  | .non x0 x1 => [Dt.str x0, Dt.str x1]
  | .give x0 x1 => [Dt.str x0, Dt.str x1]
  | .take x0 x1 => [Dt.str x0, pathD x1]
  | .fill x0 x1 => [pathD x0, Dt.str x1]
  | .swap x0 x1 => [Dt.str x0, pathD x1]
  | .get x0 x1 => [Dt.str x0, pathD x1]
  | .put x0 x1 => [pathD x0, atD x1]
  | .has x0 x1 => [Dt.str x0, pathD x1]
  | .drop x0 => [Dt.str x0]
  | .lend x0 x1 x2 => [Dt.str (modeS x0), Dt.str x1, pathD x2]
  | .step x0 x1 => [Dt.str x0, Dt.str x1]
  | .call x0 x1 x2 => [optD x0, Dt.str x1, Dt.tup (x2.map gvD)]
  | .back x0 => [atD x0]
  | .ask x0 => [Dt.str x0]
  | .tell x0 => [atD x0]
/-- what a row tells -/
def toldD : Rw → Dt
  | .set x0 x1 x2 x3 => .tup [Dt.str "set", Dt.str x0, atD x1, Dt.str x2, atD x3]
  | .make x0 x1 x2 => .tup [Dt.str "make", Dt.str x0, Dt.str x1, Dt.tup (x2.map atD)]
  | .non x0 x1 => .tup [Dt.str "none", Dt.str x0, Dt.str x1]
  | .give x0 x1 => .tup [Dt.str "give", Dt.str x0, Dt.str x1]
  | .take x0 x1 => .tup [Dt.str "take", Dt.str x0, pathD x1]
  | .fill x0 x1 => .tup [Dt.str "fill", pathD x0, Dt.str x1]
  | .swap x0 x1 => .tup [Dt.str "swap", Dt.str x0, pathD x1]
  | .get x0 x1 => .tup [Dt.str "get", Dt.str x0, pathD x1]
  | .put x0 x1 => .tup [Dt.str "put", pathD x0, atD x1]
  | .has x0 x1 => .tup [Dt.str "has", Dt.str x0, pathD x1]
  | .drop x0 => .tup [Dt.str "drop", Dt.str x0]
  | .lend x0 x1 x2 => .tup [Dt.str (modeS x0), Dt.str x1, pathD x2]
  | .step x0 x1 => .tup [Dt.str "step", Dt.str x0, Dt.str x1]
  | .call x0 x1 x2 => .tup [Dt.str "call", optD x0, Dt.str x1, Dt.tup (x2.map gvD)]
  | .back x0 => .tup [Dt.str "back", atD x0]
  | .ask x0 => .tup [Dt.str "ask", Dt.str x0]
  | .tell x0 => .tup [Dt.str "tell", atD x0]
section
variable {P : Program} {w : World} {K : PySem.W.Frag} {mg : Str → Option Value} {base : Heap}
abbrev fsSetRow (v0 v1 v2 v3 : V) : List (Str × V) := putF "other" v3 (putF "sign" v2 (putF "one" v1 (putF "name" v0 [])))
def spInitSetRow (T : Tx K mg) : Sp := fun vs H Q _ => ∃ (x dx : Addr) (v0 v1 v2 v3 : V), vs = [.ref x, v0, v1, v2, v3] ∧ H x = some (.ins T.a_SetRow dx []) ∧ ∀ H', SameBut x H H' → H' x = some (.ins T.a_SetRow dx (fsSetRow v0 v1 v2 v3)) → Q .non H'
theorem ok_SetRow_init (T : Tx K mg) : FnOk P w K mg base CX0 1 T.f_SetRow_init T.d_SetRow_init ["self", "name", "one", "sign", "other"] (spInitSetRow T) := by
  refine T.F_SetRow_init.ok sc_SetRow_init (fun vs H Q E h => ?_) (fun cdv A outer s H vs Q E hr h => ?_)
  · obtain ⟨x, dx, v0, v1, v2, v3, rfl, _⟩ := h
    rfl
  · obtain ⟨x, dx, v0, v1, v2, v3, rfl, hx, q⟩ := h
    refine ⟨_, (pss_cons (ps_fld (pv 0) (pv 1) rfl)
      (pss_cons (ps_fld (pv 0) (pv 2) rfl)
      (pss_cons (ps_fld (pv 0) (pv 3) rfl)
      (pss_one (ps_fld (pv 0) (pv 4) rfl))))), ?_⟩
    have ccl := T.cl_SetRow
    have na0 := T.na_SetRow_name
    have na1 := T.na_SetRow_one
    have na2 := T.na_SetRow_sign
    have na3 := T.na_SetRow_other
    walk_at "sy"
    exact q _ (by walk_at "bt") (by walk_at "look")
def spToldSetRow (T : Tx K mg) : Sp := fun vs H Q _ => ∃ (x dx : Addr) (v0 v1 v2 v3 : V), vs = [.ref x] ∧ H x = some (.ins T.a_SetRow dx (fsSetRow v0 v1 v2 v3)) ∧ ∀ (p : Addr) (H' : Hp), New p (.tup [.str "set", v0, v1, v2, v3]) H H' → Q (.ref p) H'
theorem ok_SetRow_told (T : Tx K mg) : FnOk P w K mg base CX0 1 T.f_SetRow_told T.d_SetRow_told ["self"] (spToldSetRow T) := by
  refine T.F_SetRow_told.ok sc_SetRow_told (fun vs H Q E h => ?_) (fun cdv A outer s H vs Q E hr h => ?_)
  · obtain ⟨x, dx, v0, v1, v2, v3, rfl, _⟩ := h
    rfl
  · obtain ⟨x, dx, v0, v1, v2, v3, rfl, hx, q⟩ := h
    refine ⟨_, (pss_one (ps_ret (pe_tup (pa_cons pe_str (pa_cons (fldK (K := K) rfl (pv 0) rfl) (pa_cons (fldK (K := K) rfl (pv 0) rfl) (pa_cons (fldK (K := K) rfl (pv 0) rfl) (pa_cons (fldK (K := K) rfl (pv 0) rfl) pa_nil)))))))), ?_⟩
    have ccl := T.cl_SetRow
    have na0 := T.na_SetRow_name
    have na1 := T.na_SetRow_one
    have na2 := T.na_SetRow_sign
    have na3 := T.na_SetRow_other
    walk_at "sy"
    exact q _ _ (by assumption)
theorem use_SetRow {T : Tx K mg} {H : Hp} {Q : VK} {E : XK} {v0 v1 v2 v3 : V} (h : ∀ (x dx : Addr) (H' : Hp), New x (.ins T.a_SetRow dx (fsSetRow v0 v1 v2 v3)) H H' → Q (.ref x) H') : kMake T.a_SetRow (spInitSetRow T) [] E [v0, v1, v2, v3] H Q := by
  intro x dx hx hd hne
  refine ⟨x, dx, v0, v1, v2, v3, rfl, upd_same, fun H' sb hx' => ⟨rfl, h x dx H' ⟨hx, hx', sb.made hx hd⟩⟩⟩
abbrev fsMakeRow (v0 v1 v2 : V) : List (Str × V) := putF "atoms" v2 (putF "record" v1 (putF "name" v0 []))
def spInitMakeRow (T : Tx K mg) : Sp := fun vs H Q _ => ∃ (x dx : Addr) (v0 v1 v2 : V), vs = [.ref x, v0, v1, v2] ∧ H x = some (.ins T.a_MakeRow dx []) ∧ (∃ (q : Addr) (us : List V), v2 = .ref q ∧ H q = some (.tup us)) ∧ ∀ H', SameBut x H H' → H' x = some (.ins T.a_MakeRow dx (fsMakeRow v0 v1 v2)) → Q .non H'
theorem ok_MakeRow_init (T : Tx K mg) : FnOk P w K mg base CX0 1 T.f_MakeRow_init T.d_MakeRow_init ["self", "name", "record", "atoms"] (spInitMakeRow T) := by
  refine T.F_MakeRow_init.ok sc_MakeRow_init (fun vs H Q E h => ?_) (fun cdv A outer s H vs Q E hr h => ?_)
  · obtain ⟨x, dx, v0, v1, v2, rfl, _⟩ := h
    rfl
  · obtain ⟨x, dx, v0, v1, v2, rfl, hx, ⟨q0, us0, rfl, hq0⟩, q⟩ := h
    refine ⟨_, (pss_cons (ps_fld (pv 0) (pv 1) rfl)
      (pss_cons (ps_fld (pv 0) (pv 2) rfl)
      (pss_one (ps_fld (pv 0) (pe_callTy (tuple_ofK (K := K) rfl) (by rfl) T.n_tuple PyProof.Rows.boot_tuple (pa_cons (pv 3) pa_nil)) rfl)))), ?_⟩
    have ccl := T.cl_MakeRow
    have na0 := T.na_MakeRow_name
    have na1 := T.na_MakeRow_record
    have na2 := T.na_MakeRow_atoms
    walk_at "sy"
    exact q _ (by walk_at "bt") (by walk_at "look")
def spToldMakeRow (T : Tx K mg) : Sp := fun vs H Q _ => ∃ (x dx : Addr) (v0 v1 v2 : V), vs = [.ref x] ∧ H x = some (.ins T.a_MakeRow dx (fsMakeRow v0 v1 v2)) ∧ ∀ (p : Addr) (H' : Hp), New p (.tup [.str "make", v0, v1, v2]) H H' → Q (.ref p) H'
theorem ok_MakeRow_told (T : Tx K mg) : FnOk P w K mg base CX0 1 T.f_MakeRow_told T.d_MakeRow_told ["self"] (spToldMakeRow T) := by
  refine T.F_MakeRow_told.ok sc_MakeRow_told (fun vs H Q E h => ?_) (fun cdv A outer s H vs Q E hr h => ?_)
  · obtain ⟨x, dx, v0, v1, v2, rfl, _⟩ := h
    rfl
  · obtain ⟨x, dx, v0, v1, v2, rfl, hx, q⟩ := h
    refine ⟨_, (pss_one (ps_ret (pe_tup (pa_cons pe_str (pa_cons (fldK (K := K) rfl (pv 0) rfl) (pa_cons (fldK (K := K) rfl (pv 0) rfl) (pa_cons (fldK (K := K) rfl (pv 0) rfl) pa_nil))))))), ?_⟩
    have ccl := T.cl_MakeRow
    have na0 := T.na_MakeRow_name
    have na1 := T.na_MakeRow_record
    have na2 := T.na_MakeRow_atoms
    walk_at "sy"
    exact q _ _ (by assumption)
theorem use_MakeRow {T : Tx K mg} {H : Hp} {Q : VK} {E : XK} {v0 v1 v2 : V} {q0 : Addr} {us0 : List V} (e0 : v2 = .ref q0) (hq : H q0 = some (.tup us0)) (h : ∀ (x dx : Addr) (H' : Hp), New x (.ins T.a_MakeRow dx (fsMakeRow v0 v1 v2)) H H' → Q (.ref x) H') : kMake T.a_MakeRow (spInitMakeRow T) [] E [v0, v1, v2] H Q := by
  intro x dx hx hd hne
  refine ⟨x, dx, v0, v1, v2, rfl, upd_same, ⟨q0, us0, e0, by rw [upd_ne (ne_of_none hq hx), upd_ne (ne_of_none hq hd)]; exact hq⟩, fun H' sb hx' => ⟨rfl, h x dx H' ⟨hx, hx', sb.made hx hd⟩⟩⟩
abbrev fsNoneRow (v0 v1 : V) : List (Str × V) := putF "record" v1 (putF "name" v0 [])
def spInitNoneRow (T : Tx K mg) : Sp := fun vs H Q _ => ∃ (x dx : Addr) (v0 v1 : V), vs = [.ref x, v0, v1] ∧ H x = some (.ins T.a_NoneRow dx []) ∧ ∀ H', SameBut x H H' → H' x = some (.ins T.a_NoneRow dx (fsNoneRow v0 v1)) → Q .non H'
theorem ok_NoneRow_init (T : Tx K mg) : FnOk P w K mg base CX0 1 T.f_NoneRow_init T.d_NoneRow_init ["self", "name", "record"] (spInitNoneRow T) := by
  refine T.F_NoneRow_init.ok sc_NoneRow_init (fun vs H Q E h => ?_) (fun cdv A outer s H vs Q E hr h => ?_)
  · obtain ⟨x, dx, v0, v1, rfl, _⟩ := h
    rfl
  · obtain ⟨x, dx, v0, v1, rfl, hx, q⟩ := h
    refine ⟨_, (pss_cons (ps_fld (pv 0) (pv 1) rfl)
      (pss_one (ps_fld (pv 0) (pv 2) rfl))), ?_⟩
    have ccl := T.cl_NoneRow
    have na0 := T.na_NoneRow_name
    have na1 := T.na_NoneRow_record
    walk_at "sy"
    exact q _ (by walk_at "bt") (by walk_at "look")
def spToldNoneRow (T : Tx K mg) : Sp := fun vs H Q _ => ∃ (x dx : Addr) (v0 v1 : V), vs = [.ref x] ∧ H x = some (.ins T.a_NoneRow dx (fsNoneRow v0 v1)) ∧ ∀ (p : Addr) (H' : Hp), New p (.tup [.str "none", v0, v1]) H H' → Q (.ref p) H'
theorem ok_NoneRow_told (T : Tx K mg) : FnOk P w K mg base CX0 1 T.f_NoneRow_told T.d_NoneRow_told ["self"] (spToldNoneRow T) := by
  refine T.F_NoneRow_told.ok sc_NoneRow_told (fun vs H Q E h => ?_) (fun cdv A outer s H vs Q E hr h => ?_)
  · obtain ⟨x, dx, v0, v1, rfl, _⟩ := h
    rfl
  · obtain ⟨x, dx, v0, v1, rfl, hx, q⟩ := h
    refine ⟨_, (pss_one (ps_ret (pe_tup (pa_cons pe_str (pa_cons (fldK (K := K) rfl (pv 0) rfl) (pa_cons (fldK (K := K) rfl (pv 0) rfl) pa_nil)))))), ?_⟩
    have ccl := T.cl_NoneRow
    have na0 := T.na_NoneRow_name
    have na1 := T.na_NoneRow_record
    walk_at "sy"
    exact q _ _ (by assumption)
theorem use_NoneRow {T : Tx K mg} {H : Hp} {Q : VK} {E : XK} {v0 v1 : V} (h : ∀ (x dx : Addr) (H' : Hp), New x (.ins T.a_NoneRow dx (fsNoneRow v0 v1)) H H' → Q (.ref x) H') : kMake T.a_NoneRow (spInitNoneRow T) [] E [v0, v1] H Q := by
  intro x dx hx hd hne
  refine ⟨x, dx, v0, v1, rfl, upd_same, fun H' sb hx' => ⟨rfl, h x dx H' ⟨hx, hx', sb.made hx hd⟩⟩⟩
abbrev fsGiveRow (v0 v1 : V) : List (Str × V) := putF "other" v1 (putF "name" v0 [])
def spInitGiveRow (T : Tx K mg) : Sp := fun vs H Q _ => ∃ (x dx : Addr) (v0 v1 : V), vs = [.ref x, v0, v1] ∧ H x = some (.ins T.a_GiveRow dx []) ∧ ∀ H', SameBut x H H' → H' x = some (.ins T.a_GiveRow dx (fsGiveRow v0 v1)) → Q .non H'
theorem ok_GiveRow_init (T : Tx K mg) : FnOk P w K mg base CX0 1 T.f_GiveRow_init T.d_GiveRow_init ["self", "name", "other"] (spInitGiveRow T) := by
  refine T.F_GiveRow_init.ok sc_GiveRow_init (fun vs H Q E h => ?_) (fun cdv A outer s H vs Q E hr h => ?_)
  · obtain ⟨x, dx, v0, v1, rfl, _⟩ := h
    rfl
  · obtain ⟨x, dx, v0, v1, rfl, hx, q⟩ := h
    refine ⟨_, (pss_cons (ps_fld (pv 0) (pv 1) rfl)
      (pss_one (ps_fld (pv 0) (pv 2) rfl))), ?_⟩
    have ccl := T.cl_GiveRow
    have na0 := T.na_GiveRow_name
    have na1 := T.na_GiveRow_other
    walk_at "sy"
    exact q _ (by walk_at "bt") (by walk_at "look")
def spToldGiveRow (T : Tx K mg) : Sp := fun vs H Q _ => ∃ (x dx : Addr) (v0 v1 : V), vs = [.ref x] ∧ H x = some (.ins T.a_GiveRow dx (fsGiveRow v0 v1)) ∧ ∀ (p : Addr) (H' : Hp), New p (.tup [.str "give", v0, v1]) H H' → Q (.ref p) H'
theorem ok_GiveRow_told (T : Tx K mg) : FnOk P w K mg base CX0 1 T.f_GiveRow_told T.d_GiveRow_told ["self"] (spToldGiveRow T) := by
  refine T.F_GiveRow_told.ok sc_GiveRow_told (fun vs H Q E h => ?_) (fun cdv A outer s H vs Q E hr h => ?_)
  · obtain ⟨x, dx, v0, v1, rfl, _⟩ := h
    rfl
  · obtain ⟨x, dx, v0, v1, rfl, hx, q⟩ := h
    refine ⟨_, (pss_one (ps_ret (pe_tup (pa_cons pe_str (pa_cons (fldK (K := K) rfl (pv 0) rfl) (pa_cons (fldK (K := K) rfl (pv 0) rfl) pa_nil)))))), ?_⟩
    have ccl := T.cl_GiveRow
    have na0 := T.na_GiveRow_name
    have na1 := T.na_GiveRow_other
    walk_at "sy"
    exact q _ _ (by assumption)
theorem use_GiveRow {T : Tx K mg} {H : Hp} {Q : VK} {E : XK} {v0 v1 : V} (h : ∀ (x dx : Addr) (H' : Hp), New x (.ins T.a_GiveRow dx (fsGiveRow v0 v1)) H H' → Q (.ref x) H') : kMake T.a_GiveRow (spInitGiveRow T) [] E [v0, v1] H Q := by
  intro x dx hx hd hne
  refine ⟨x, dx, v0, v1, rfl, upd_same, fun H' sb hx' => ⟨rfl, h x dx H' ⟨hx, hx', sb.made hx hd⟩⟩⟩
abbrev fsTakeRow (v0 v1 : V) : List (Str × V) := putF "path" v1 (putF "name" v0 [])
def spInitTakeRow (T : Tx K mg) : Sp := fun vs H Q _ => ∃ (x dx : Addr) (v0 v1 : V), vs = [.ref x, v0, v1] ∧ H x = some (.ins T.a_TakeRow dx []) ∧ ∀ H', SameBut x H H' → H' x = some (.ins T.a_TakeRow dx (fsTakeRow v0 v1)) → Q .non H'
theorem ok_TakeRow_init (T : Tx K mg) : FnOk P w K mg base CX0 1 T.f_TakeRow_init T.d_TakeRow_init ["self", "name", "path"] (spInitTakeRow T) := by
  refine T.F_TakeRow_init.ok sc_TakeRow_init (fun vs H Q E h => ?_) (fun cdv A outer s H vs Q E hr h => ?_)
  · obtain ⟨x, dx, v0, v1, rfl, _⟩ := h
    rfl
  · obtain ⟨x, dx, v0, v1, rfl, hx, q⟩ := h
    refine ⟨_, (pss_cons (ps_fld (pv 0) (pv 1) rfl)
      (pss_one (ps_fld (pv 0) (pv 2) rfl))), ?_⟩
    have ccl := T.cl_TakeRow
    have na0 := T.na_TakeRow_name
    have na1 := T.na_TakeRow_path
    walk_at "sy"
    exact q _ (by walk_at "bt") (by walk_at "look")
def spToldTakeRow (T : Tx K mg) : Sp := fun vs H Q _ => ∃ (x dx : Addr) (v0 v1 : V), vs = [.ref x] ∧ H x = some (.ins T.a_TakeRow dx (fsTakeRow v0 v1)) ∧ ∀ (p : Addr) (H' : Hp), New p (.tup [.str "take", v0, v1]) H H' → Q (.ref p) H'
theorem ok_TakeRow_told (T : Tx K mg) : FnOk P w K mg base CX0 1 T.f_TakeRow_told T.d_TakeRow_told ["self"] (spToldTakeRow T) := by
  refine T.F_TakeRow_told.ok sc_TakeRow_told (fun vs H Q E h => ?_) (fun cdv A outer s H vs Q E hr h => ?_)
  · obtain ⟨x, dx, v0, v1, rfl, _⟩ := h
    rfl
  · obtain ⟨x, dx, v0, v1, rfl, hx, q⟩ := h
    refine ⟨_, (pss_one (ps_ret (pe_tup (pa_cons pe_str (pa_cons (fldK (K := K) rfl (pv 0) rfl) (pa_cons (fldK (K := K) rfl (pv 0) rfl) pa_nil)))))), ?_⟩
    have ccl := T.cl_TakeRow
    have na0 := T.na_TakeRow_name
    have na1 := T.na_TakeRow_path
    walk_at "sy"
    exact q _ _ (by assumption)
theorem use_TakeRow {T : Tx K mg} {H : Hp} {Q : VK} {E : XK} {v0 v1 : V} (h : ∀ (x dx : Addr) (H' : Hp), New x (.ins T.a_TakeRow dx (fsTakeRow v0 v1)) H H' → Q (.ref x) H') : kMake T.a_TakeRow (spInitTakeRow T) [] E [v0, v1] H Q := by
  intro x dx hx hd hne
  refine ⟨x, dx, v0, v1, rfl, upd_same, fun H' sb hx' => ⟨rfl, h x dx H' ⟨hx, hx', sb.made hx hd⟩⟩⟩
abbrev fsFillRow (v0 v1 : V) : List (Str × V) := putF "name" v1 (putF "path" v0 [])
def spInitFillRow (T : Tx K mg) : Sp := fun vs H Q _ => ∃ (x dx : Addr) (v0 v1 : V), vs = [.ref x, v0, v1] ∧ H x = some (.ins T.a_FillRow dx []) ∧ ∀ H', SameBut x H H' → H' x = some (.ins T.a_FillRow dx (fsFillRow v0 v1)) → Q .non H'
theorem ok_FillRow_init (T : Tx K mg) : FnOk P w K mg base CX0 1 T.f_FillRow_init T.d_FillRow_init ["self", "path", "name"] (spInitFillRow T) := by
  refine T.F_FillRow_init.ok sc_FillRow_init (fun vs H Q E h => ?_) (fun cdv A outer s H vs Q E hr h => ?_)
  · obtain ⟨x, dx, v0, v1, rfl, _⟩ := h
    rfl
  · obtain ⟨x, dx, v0, v1, rfl, hx, q⟩ := h
    refine ⟨_, (pss_cons (ps_fld (pv 0) (pv 1) rfl)
      (pss_one (ps_fld (pv 0) (pv 2) rfl))), ?_⟩
    have ccl := T.cl_FillRow
    have na0 := T.na_FillRow_path
    have na1 := T.na_FillRow_name
    walk_at "sy"
    exact q _ (by walk_at "bt") (by walk_at "look")
def spToldFillRow (T : Tx K mg) : Sp := fun vs H Q _ => ∃ (x dx : Addr) (v0 v1 : V), vs = [.ref x] ∧ H x = some (.ins T.a_FillRow dx (fsFillRow v0 v1)) ∧ ∀ (p : Addr) (H' : Hp), New p (.tup [.str "fill", v0, v1]) H H' → Q (.ref p) H'
theorem ok_FillRow_told (T : Tx K mg) : FnOk P w K mg base CX0 1 T.f_FillRow_told T.d_FillRow_told ["self"] (spToldFillRow T) := by
  refine T.F_FillRow_told.ok sc_FillRow_told (fun vs H Q E h => ?_) (fun cdv A outer s H vs Q E hr h => ?_)
  · obtain ⟨x, dx, v0, v1, rfl, _⟩ := h
    rfl
  · obtain ⟨x, dx, v0, v1, rfl, hx, q⟩ := h
    refine ⟨_, (pss_one (ps_ret (pe_tup (pa_cons pe_str (pa_cons (fldK (K := K) rfl (pv 0) rfl) (pa_cons (fldK (K := K) rfl (pv 0) rfl) pa_nil)))))), ?_⟩
    have ccl := T.cl_FillRow
    have na0 := T.na_FillRow_path
    have na1 := T.na_FillRow_name
    walk_at "sy"
    exact q _ _ (by assumption)
theorem use_FillRow {T : Tx K mg} {H : Hp} {Q : VK} {E : XK} {v0 v1 : V} (h : ∀ (x dx : Addr) (H' : Hp), New x (.ins T.a_FillRow dx (fsFillRow v0 v1)) H H' → Q (.ref x) H') : kMake T.a_FillRow (spInitFillRow T) [] E [v0, v1] H Q := by
  intro x dx hx hd hne
  refine ⟨x, dx, v0, v1, rfl, upd_same, fun H' sb hx' => ⟨rfl, h x dx H' ⟨hx, hx', sb.made hx hd⟩⟩⟩
abbrev fsSwapRow (v0 v1 : V) : List (Str × V) := putF "path" v1 (putF "name" v0 [])
def spInitSwapRow (T : Tx K mg) : Sp := fun vs H Q _ => ∃ (x dx : Addr) (v0 v1 : V), vs = [.ref x, v0, v1] ∧ H x = some (.ins T.a_SwapRow dx []) ∧ ∀ H', SameBut x H H' → H' x = some (.ins T.a_SwapRow dx (fsSwapRow v0 v1)) → Q .non H'
theorem ok_SwapRow_init (T : Tx K mg) : FnOk P w K mg base CX0 1 T.f_SwapRow_init T.d_SwapRow_init ["self", "name", "path"] (spInitSwapRow T) := by
  refine T.F_SwapRow_init.ok sc_SwapRow_init (fun vs H Q E h => ?_) (fun cdv A outer s H vs Q E hr h => ?_)
  · obtain ⟨x, dx, v0, v1, rfl, _⟩ := h
    rfl
  · obtain ⟨x, dx, v0, v1, rfl, hx, q⟩ := h
    refine ⟨_, (pss_cons (ps_fld (pv 0) (pv 1) rfl)
      (pss_one (ps_fld (pv 0) (pv 2) rfl))), ?_⟩
    have ccl := T.cl_SwapRow
    have na0 := T.na_SwapRow_name
    have na1 := T.na_SwapRow_path
    walk_at "sy"
    exact q _ (by walk_at "bt") (by walk_at "look")
def spToldSwapRow (T : Tx K mg) : Sp := fun vs H Q _ => ∃ (x dx : Addr) (v0 v1 : V), vs = [.ref x] ∧ H x = some (.ins T.a_SwapRow dx (fsSwapRow v0 v1)) ∧ ∀ (p : Addr) (H' : Hp), New p (.tup [.str "swap", v0, v1]) H H' → Q (.ref p) H'
theorem ok_SwapRow_told (T : Tx K mg) : FnOk P w K mg base CX0 1 T.f_SwapRow_told T.d_SwapRow_told ["self"] (spToldSwapRow T) := by
  refine T.F_SwapRow_told.ok sc_SwapRow_told (fun vs H Q E h => ?_) (fun cdv A outer s H vs Q E hr h => ?_)
  · obtain ⟨x, dx, v0, v1, rfl, _⟩ := h
    rfl
  · obtain ⟨x, dx, v0, v1, rfl, hx, q⟩ := h
    refine ⟨_, (pss_one (ps_ret (pe_tup (pa_cons pe_str (pa_cons (fldK (K := K) rfl (pv 0) rfl) (pa_cons (fldK (K := K) rfl (pv 0) rfl) pa_nil)))))), ?_⟩
    have ccl := T.cl_SwapRow
    have na0 := T.na_SwapRow_name
    have na1 := T.na_SwapRow_path
    walk_at "sy"
    exact q _ _ (by assumption)
theorem use_SwapRow {T : Tx K mg} {H : Hp} {Q : VK} {E : XK} {v0 v1 : V} (h : ∀ (x dx : Addr) (H' : Hp), New x (.ins T.a_SwapRow dx (fsSwapRow v0 v1)) H H' → Q (.ref x) H') : kMake T.a_SwapRow (spInitSwapRow T) [] E [v0, v1] H Q := by
  intro x dx hx hd hne
  refine ⟨x, dx, v0, v1, rfl, upd_same, fun H' sb hx' => ⟨rfl, h x dx H' ⟨hx, hx', sb.made hx hd⟩⟩⟩
abbrev fsGetRow (v0 v1 : V) : List (Str × V) := putF "path" v1 (putF "name" v0 [])
def spInitGetRow (T : Tx K mg) : Sp := fun vs H Q _ => ∃ (x dx : Addr) (v0 v1 : V), vs = [.ref x, v0, v1] ∧ H x = some (.ins T.a_GetRow dx []) ∧ ∀ H', SameBut x H H' → H' x = some (.ins T.a_GetRow dx (fsGetRow v0 v1)) → Q .non H'
theorem ok_GetRow_init (T : Tx K mg) : FnOk P w K mg base CX0 1 T.f_GetRow_init T.d_GetRow_init ["self", "name", "path"] (spInitGetRow T) := by
  refine T.F_GetRow_init.ok sc_GetRow_init (fun vs H Q E h => ?_) (fun cdv A outer s H vs Q E hr h => ?_)
  · obtain ⟨x, dx, v0, v1, rfl, _⟩ := h
    rfl
  · obtain ⟨x, dx, v0, v1, rfl, hx, q⟩ := h
    refine ⟨_, (pss_cons (ps_fld (pv 0) (pv 1) rfl)
      (pss_one (ps_fld (pv 0) (pv 2) rfl))), ?_⟩
    have ccl := T.cl_GetRow
    have na0 := T.na_GetRow_name
    have na1 := T.na_GetRow_path
    walk_at "sy"
    exact q _ (by walk_at "bt") (by walk_at "look")
def spToldGetRow (T : Tx K mg) : Sp := fun vs H Q _ => ∃ (x dx : Addr) (v0 v1 : V), vs = [.ref x] ∧ H x = some (.ins T.a_GetRow dx (fsGetRow v0 v1)) ∧ ∀ (p : Addr) (H' : Hp), New p (.tup [.str "get", v0, v1]) H H' → Q (.ref p) H'
theorem ok_GetRow_told (T : Tx K mg) : FnOk P w K mg base CX0 1 T.f_GetRow_told T.d_GetRow_told ["self"] (spToldGetRow T) := by
  refine T.F_GetRow_told.ok sc_GetRow_told (fun vs H Q E h => ?_) (fun cdv A outer s H vs Q E hr h => ?_)
  · obtain ⟨x, dx, v0, v1, rfl, _⟩ := h
    rfl
  · obtain ⟨x, dx, v0, v1, rfl, hx, q⟩ := h
    refine ⟨_, (pss_one (ps_ret (pe_tup (pa_cons pe_str (pa_cons (fldK (K := K) rfl (pv 0) rfl) (pa_cons (fldK (K := K) rfl (pv 0) rfl) pa_nil)))))), ?_⟩
    have ccl := T.cl_GetRow
    have na0 := T.na_GetRow_name
    have na1 := T.na_GetRow_path
    walk_at "sy"
    exact q _ _ (by assumption)
theorem use_GetRow {T : Tx K mg} {H : Hp} {Q : VK} {E : XK} {v0 v1 : V} (h : ∀ (x dx : Addr) (H' : Hp), New x (.ins T.a_GetRow dx (fsGetRow v0 v1)) H H' → Q (.ref x) H') : kMake T.a_GetRow (spInitGetRow T) [] E [v0, v1] H Q := by
  intro x dx hx hd hne
  refine ⟨x, dx, v0, v1, rfl, upd_same, fun H' sb hx' => ⟨rfl, h x dx H' ⟨hx, hx', sb.made hx hd⟩⟩⟩
abbrev fsPutRow (v0 v1 : V) : List (Str × V) := putF "atom" v1 (putF "path" v0 [])
def spInitPutRow (T : Tx K mg) : Sp := fun vs H Q _ => ∃ (x dx : Addr) (v0 v1 : V), vs = [.ref x, v0, v1] ∧ H x = some (.ins T.a_PutRow dx []) ∧ ∀ H', SameBut x H H' → H' x = some (.ins T.a_PutRow dx (fsPutRow v0 v1)) → Q .non H'
theorem ok_PutRow_init (T : Tx K mg) : FnOk P w K mg base CX0 1 T.f_PutRow_init T.d_PutRow_init ["self", "path", "atom"] (spInitPutRow T) := by
  refine T.F_PutRow_init.ok sc_PutRow_init (fun vs H Q E h => ?_) (fun cdv A outer s H vs Q E hr h => ?_)
  · obtain ⟨x, dx, v0, v1, rfl, _⟩ := h
    rfl
  · obtain ⟨x, dx, v0, v1, rfl, hx, q⟩ := h
    refine ⟨_, (pss_cons (ps_fld (pv 0) (pv 1) rfl)
      (pss_one (ps_fld (pv 0) (pv 2) rfl))), ?_⟩
    have ccl := T.cl_PutRow
    have na0 := T.na_PutRow_path
    have na1 := T.na_PutRow_atom
    walk_at "sy"
    exact q _ (by walk_at "bt") (by walk_at "look")
def spToldPutRow (T : Tx K mg) : Sp := fun vs H Q _ => ∃ (x dx : Addr) (v0 v1 : V), vs = [.ref x] ∧ H x = some (.ins T.a_PutRow dx (fsPutRow v0 v1)) ∧ ∀ (p : Addr) (H' : Hp), New p (.tup [.str "put", v0, v1]) H H' → Q (.ref p) H'
theorem ok_PutRow_told (T : Tx K mg) : FnOk P w K mg base CX0 1 T.f_PutRow_told T.d_PutRow_told ["self"] (spToldPutRow T) := by
  refine T.F_PutRow_told.ok sc_PutRow_told (fun vs H Q E h => ?_) (fun cdv A outer s H vs Q E hr h => ?_)
  · obtain ⟨x, dx, v0, v1, rfl, _⟩ := h
    rfl
  · obtain ⟨x, dx, v0, v1, rfl, hx, q⟩ := h
    refine ⟨_, (pss_one (ps_ret (pe_tup (pa_cons pe_str (pa_cons (fldK (K := K) rfl (pv 0) rfl) (pa_cons (fldK (K := K) rfl (pv 0) rfl) pa_nil)))))), ?_⟩
    have ccl := T.cl_PutRow
    have na0 := T.na_PutRow_path
    have na1 := T.na_PutRow_atom
    walk_at "sy"
    exact q _ _ (by assumption)
theorem use_PutRow {T : Tx K mg} {H : Hp} {Q : VK} {E : XK} {v0 v1 : V} (h : ∀ (x dx : Addr) (H' : Hp), New x (.ins T.a_PutRow dx (fsPutRow v0 v1)) H H' → Q (.ref x) H') : kMake T.a_PutRow (spInitPutRow T) [] E [v0, v1] H Q := by
  intro x dx hx hd hne
  refine ⟨x, dx, v0, v1, rfl, upd_same, fun H' sb hx' => ⟨rfl, h x dx H' ⟨hx, hx', sb.made hx hd⟩⟩⟩
abbrev fsHasRow (v0 v1 : V) : List (Str × V) := putF "path" v1 (putF "name" v0 [])
def spInitHasRow (T : Tx K mg) : Sp := fun vs H Q _ => ∃ (x dx : Addr) (v0 v1 : V), vs = [.ref x, v0, v1] ∧ H x = some (.ins T.a_HasRow dx []) ∧ ∀ H', SameBut x H H' → H' x = some (.ins T.a_HasRow dx (fsHasRow v0 v1)) → Q .non H'
theorem ok_HasRow_init (T : Tx K mg) : FnOk P w K mg base CX0 1 T.f_HasRow_init T.d_HasRow_init ["self", "name", "path"] (spInitHasRow T) := by
  refine T.F_HasRow_init.ok sc_HasRow_init (fun vs H Q E h => ?_) (fun cdv A outer s H vs Q E hr h => ?_)
  · obtain ⟨x, dx, v0, v1, rfl, _⟩ := h
    rfl
  · obtain ⟨x, dx, v0, v1, rfl, hx, q⟩ := h
    refine ⟨_, (pss_cons (ps_fld (pv 0) (pv 1) rfl)
      (pss_one (ps_fld (pv 0) (pv 2) rfl))), ?_⟩
    have ccl := T.cl_HasRow
    have na0 := T.na_HasRow_name
    have na1 := T.na_HasRow_path
    walk_at "sy"
    exact q _ (by walk_at "bt") (by walk_at "look")
def spToldHasRow (T : Tx K mg) : Sp := fun vs H Q _ => ∃ (x dx : Addr) (v0 v1 : V), vs = [.ref x] ∧ H x = some (.ins T.a_HasRow dx (fsHasRow v0 v1)) ∧ ∀ (p : Addr) (H' : Hp), New p (.tup [.str "has", v0, v1]) H H' → Q (.ref p) H'
theorem ok_HasRow_told (T : Tx K mg) : FnOk P w K mg base CX0 1 T.f_HasRow_told T.d_HasRow_told ["self"] (spToldHasRow T) := by
  refine T.F_HasRow_told.ok sc_HasRow_told (fun vs H Q E h => ?_) (fun cdv A outer s H vs Q E hr h => ?_)
  · obtain ⟨x, dx, v0, v1, rfl, _⟩ := h
    rfl
  · obtain ⟨x, dx, v0, v1, rfl, hx, q⟩ := h
    refine ⟨_, (pss_one (ps_ret (pe_tup (pa_cons pe_str (pa_cons (fldK (K := K) rfl (pv 0) rfl) (pa_cons (fldK (K := K) rfl (pv 0) rfl) pa_nil)))))), ?_⟩
    have ccl := T.cl_HasRow
    have na0 := T.na_HasRow_name
    have na1 := T.na_HasRow_path
    walk_at "sy"
    exact q _ _ (by assumption)
theorem use_HasRow {T : Tx K mg} {H : Hp} {Q : VK} {E : XK} {v0 v1 : V} (h : ∀ (x dx : Addr) (H' : Hp), New x (.ins T.a_HasRow dx (fsHasRow v0 v1)) H H' → Q (.ref x) H') : kMake T.a_HasRow (spInitHasRow T) [] E [v0, v1] H Q := by
  intro x dx hx hd hne
  refine ⟨x, dx, v0, v1, rfl, upd_same, fun H' sb hx' => ⟨rfl, h x dx H' ⟨hx, hx', sb.made hx hd⟩⟩⟩
abbrev fsDropRow (v0 : V) : List (Str × V) := putF "name" v0 []
def spInitDropRow (T : Tx K mg) : Sp := fun vs H Q _ => ∃ (x dx : Addr) (v0 : V), vs = [.ref x, v0] ∧ H x = some (.ins T.a_DropRow dx []) ∧ ∀ H', SameBut x H H' → H' x = some (.ins T.a_DropRow dx (fsDropRow v0)) → Q .non H'
theorem ok_DropRow_init (T : Tx K mg) : FnOk P w K mg base CX0 1 T.f_DropRow_init T.d_DropRow_init ["self", "name"] (spInitDropRow T) := by
  refine T.F_DropRow_init.ok sc_DropRow_init (fun vs H Q E h => ?_) (fun cdv A outer s H vs Q E hr h => ?_)
  · obtain ⟨x, dx, v0, rfl, _⟩ := h
    rfl
  · obtain ⟨x, dx, v0, rfl, hx, q⟩ := h
    refine ⟨_, (pss_one (ps_fld (pv 0) (pv 1) rfl)), ?_⟩
    have ccl := T.cl_DropRow
    have na0 := T.na_DropRow_name
    walk_at "sy"
    exact q _ (by walk_at "bt") (by walk_at "look")
def spToldDropRow (T : Tx K mg) : Sp := fun vs H Q _ => ∃ (x dx : Addr) (v0 : V), vs = [.ref x] ∧ H x = some (.ins T.a_DropRow dx (fsDropRow v0)) ∧ ∀ (p : Addr) (H' : Hp), New p (.tup [.str "drop", v0]) H H' → Q (.ref p) H'
theorem ok_DropRow_told (T : Tx K mg) : FnOk P w K mg base CX0 1 T.f_DropRow_told T.d_DropRow_told ["self"] (spToldDropRow T) := by
  refine T.F_DropRow_told.ok sc_DropRow_told (fun vs H Q E h => ?_) (fun cdv A outer s H vs Q E hr h => ?_)
  · obtain ⟨x, dx, v0, rfl, _⟩ := h
    rfl
  · obtain ⟨x, dx, v0, rfl, hx, q⟩ := h
    refine ⟨_, (pss_one (ps_ret (pe_tup (pa_cons pe_str (pa_cons (fldK (K := K) rfl (pv 0) rfl) pa_nil))))), ?_⟩
    have ccl := T.cl_DropRow
    have na0 := T.na_DropRow_name
    walk_at "sy"
    exact q _ _ (by assumption)
theorem use_DropRow {T : Tx K mg} {H : Hp} {Q : VK} {E : XK} {v0 : V} (h : ∀ (x dx : Addr) (H' : Hp), New x (.ins T.a_DropRow dx (fsDropRow v0)) H H' → Q (.ref x) H') : kMake T.a_DropRow (spInitDropRow T) [] E [v0] H Q := by
  intro x dx hx hd hne
  refine ⟨x, dx, v0, rfl, upd_same, fun H' sb hx' => ⟨rfl, h x dx H' ⟨hx, hx', sb.made hx hd⟩⟩⟩
abbrev fsLendRow (v0 v1 v2 : V) : List (Str × V) := putF "path" v2 (putF "name" v1 (putF "mode" v0 []))
def spInitLendRow (T : Tx K mg) : Sp := fun vs H Q _ => ∃ (x dx : Addr) (v0 v1 v2 : V), vs = [.ref x, v0, v1, v2] ∧ H x = some (.ins T.a_LendRow dx []) ∧ ∀ H', SameBut x H H' → H' x = some (.ins T.a_LendRow dx (fsLendRow v0 v1 v2)) → Q .non H'
theorem ok_LendRow_init (T : Tx K mg) : FnOk P w K mg base CX0 1 T.f_LendRow_init T.d_LendRow_init ["self", "mode", "name", "path"] (spInitLendRow T) := by
  refine T.F_LendRow_init.ok sc_LendRow_init (fun vs H Q E h => ?_) (fun cdv A outer s H vs Q E hr h => ?_)
  · obtain ⟨x, dx, v0, v1, v2, rfl, _⟩ := h
    rfl
  · obtain ⟨x, dx, v0, v1, v2, rfl, hx, q⟩ := h
    refine ⟨_, (pss_cons (ps_fld (pv 0) (pv 1) rfl)
      (pss_cons (ps_fld (pv 0) (pv 2) rfl)
      (pss_one (ps_fld (pv 0) (pv 3) rfl)))), ?_⟩
    have ccl := T.cl_LendRow
    have na0 := T.na_LendRow_mode
    have na1 := T.na_LendRow_name
    have na2 := T.na_LendRow_path
    walk_at "sy"
    exact q _ (by walk_at "bt") (by walk_at "look")
def spToldLendRow (T : Tx K mg) : Sp := fun vs H Q _ => ∃ (x dx : Addr) (v0 v1 v2 : V), vs = [.ref x] ∧ H x = some (.ins T.a_LendRow dx (fsLendRow v0 v1 v2)) ∧ ∀ (p : Addr) (H' : Hp), New p (.tup [v0, v1, v2]) H H' → Q (.ref p) H'
theorem ok_LendRow_told (T : Tx K mg) : FnOk P w K mg base CX0 1 T.f_LendRow_told T.d_LendRow_told ["self"] (spToldLendRow T) := by
  refine T.F_LendRow_told.ok sc_LendRow_told (fun vs H Q E h => ?_) (fun cdv A outer s H vs Q E hr h => ?_)
  · obtain ⟨x, dx, v0, v1, v2, rfl, _⟩ := h
    rfl
  · obtain ⟨x, dx, v0, v1, v2, rfl, hx, q⟩ := h
    refine ⟨_, (pss_one (ps_ret (pe_tup (pa_cons (fldK (K := K) rfl (pv 0) rfl) (pa_cons (fldK (K := K) rfl (pv 0) rfl) (pa_cons (fldK (K := K) rfl (pv 0) rfl) pa_nil)))))), ?_⟩
    have ccl := T.cl_LendRow
    have na0 := T.na_LendRow_mode
    have na1 := T.na_LendRow_name
    have na2 := T.na_LendRow_path
    walk_at "sy"
    exact q _ _ (by assumption)
theorem use_LendRow {T : Tx K mg} {H : Hp} {Q : VK} {E : XK} {v0 v1 v2 : V} (h : ∀ (x dx : Addr) (H' : Hp), New x (.ins T.a_LendRow dx (fsLendRow v0 v1 v2)) H H' → Q (.ref x) H') : kMake T.a_LendRow (spInitLendRow T) [] E [v0, v1, v2] H Q := by
  intro x dx hx hd hne
  refine ⟨x, dx, v0, v1, v2, rfl, upd_same, fun H' sb hx' => ⟨rfl, h x dx H' ⟨hx, hx', sb.made hx hd⟩⟩⟩
abbrev fsStepRow (v0 v1 : V) : List (Str × V) := putF "field" v1 (putF "name" v0 [])
def spInitStepRow (T : Tx K mg) : Sp := fun vs H Q _ => ∃ (x dx : Addr) (v0 v1 : V), vs = [.ref x, v0, v1] ∧ H x = some (.ins T.a_StepRow dx []) ∧ ∀ H', SameBut x H H' → H' x = some (.ins T.a_StepRow dx (fsStepRow v0 v1)) → Q .non H'
theorem ok_StepRow_init (T : Tx K mg) : FnOk P w K mg base CX0 1 T.f_StepRow_init T.d_StepRow_init ["self", "name", "field"] (spInitStepRow T) := by
  refine T.F_StepRow_init.ok sc_StepRow_init (fun vs H Q E h => ?_) (fun cdv A outer s H vs Q E hr h => ?_)
  · obtain ⟨x, dx, v0, v1, rfl, _⟩ := h
    rfl
  · obtain ⟨x, dx, v0, v1, rfl, hx, q⟩ := h
    refine ⟨_, (pss_cons (ps_fld (pv 0) (pv 1) rfl)
      (pss_one (ps_fld (pv 0) (pv 2) rfl))), ?_⟩
    have ccl := T.cl_StepRow
    have na0 := T.na_StepRow_name
    have na1 := T.na_StepRow_field
    walk_at "sy"
    exact q _ (by walk_at "bt") (by walk_at "look")
def spToldStepRow (T : Tx K mg) : Sp := fun vs H Q _ => ∃ (x dx : Addr) (v0 v1 : V), vs = [.ref x] ∧ H x = some (.ins T.a_StepRow dx (fsStepRow v0 v1)) ∧ ∀ (p : Addr) (H' : Hp), New p (.tup [.str "step", v0, v1]) H H' → Q (.ref p) H'
theorem ok_StepRow_told (T : Tx K mg) : FnOk P w K mg base CX0 1 T.f_StepRow_told T.d_StepRow_told ["self"] (spToldStepRow T) := by
  refine T.F_StepRow_told.ok sc_StepRow_told (fun vs H Q E h => ?_) (fun cdv A outer s H vs Q E hr h => ?_)
  · obtain ⟨x, dx, v0, v1, rfl, _⟩ := h
    rfl
  · obtain ⟨x, dx, v0, v1, rfl, hx, q⟩ := h
    refine ⟨_, (pss_one (ps_ret (pe_tup (pa_cons pe_str (pa_cons (fldK (K := K) rfl (pv 0) rfl) (pa_cons (fldK (K := K) rfl (pv 0) rfl) pa_nil)))))), ?_⟩
    have ccl := T.cl_StepRow
    have na0 := T.na_StepRow_name
    have na1 := T.na_StepRow_field
    walk_at "sy"
    exact q _ _ (by assumption)
theorem use_StepRow {T : Tx K mg} {H : Hp} {Q : VK} {E : XK} {v0 v1 : V} (h : ∀ (x dx : Addr) (H' : Hp), New x (.ins T.a_StepRow dx (fsStepRow v0 v1)) H H' → Q (.ref x) H') : kMake T.a_StepRow (spInitStepRow T) [] E [v0, v1] H Q := by
  intro x dx hx hd hne
  refine ⟨x, dx, v0, v1, rfl, upd_same, fun H' sb hx' => ⟨rfl, h x dx H' ⟨hx, hx', sb.made hx hd⟩⟩⟩
abbrev fsCallRow (v0 v1 v2 : V) : List (Str × V) := putF "given" v2 (putF "helper" v1 (putF "name" v0 []))
def spInitCallRow (T : Tx K mg) : Sp := fun vs H Q _ => ∃ (x dx : Addr) (v0 v1 v2 : V), vs = [.ref x, v0, v1, v2] ∧ H x = some (.ins T.a_CallRow dx []) ∧ (∃ (q : Addr) (us : List V), v2 = .ref q ∧ H q = some (.tup us)) ∧ ∀ H', SameBut x H H' → H' x = some (.ins T.a_CallRow dx (fsCallRow v0 v1 v2)) → Q .non H'
theorem ok_CallRow_init (T : Tx K mg) : FnOk P w K mg base CX0 1 T.f_CallRow_init T.d_CallRow_init ["self", "name", "helper", "given"] (spInitCallRow T) := by
  refine T.F_CallRow_init.ok sc_CallRow_init (fun vs H Q E h => ?_) (fun cdv A outer s H vs Q E hr h => ?_)
  · obtain ⟨x, dx, v0, v1, v2, rfl, _⟩ := h
    rfl
  · obtain ⟨x, dx, v0, v1, v2, rfl, hx, ⟨q0, us0, rfl, hq0⟩, q⟩ := h
    refine ⟨_, (pss_cons (ps_fld (pv 0) (pv 1) rfl)
      (pss_cons (ps_fld (pv 0) (pv 2) rfl)
      (pss_one (ps_fld (pv 0) (pe_callTy (tuple_ofK (K := K) rfl) (by rfl) T.n_tuple PyProof.Rows.boot_tuple (pa_cons (pv 3) pa_nil)) rfl)))), ?_⟩
    have ccl := T.cl_CallRow
    have na0 := T.na_CallRow_name
    have na1 := T.na_CallRow_helper
    have na2 := T.na_CallRow_given
    walk_at "sy"
    exact q _ (by walk_at "bt") (by walk_at "look")
def spToldCallRow (T : Tx K mg) : Sp := fun vs H Q _ => ∃ (x dx : Addr) (v0 v1 v2 : V), vs = [.ref x] ∧ H x = some (.ins T.a_CallRow dx (fsCallRow v0 v1 v2)) ∧ ∀ (p : Addr) (H' : Hp), New p (.tup [.str "call", v0, v1, v2]) H H' → Q (.ref p) H'
theorem ok_CallRow_told (T : Tx K mg) : FnOk P w K mg base CX0 1 T.f_CallRow_told T.d_CallRow_told ["self"] (spToldCallRow T) := by
  refine T.F_CallRow_told.ok sc_CallRow_told (fun vs H Q E h => ?_) (fun cdv A outer s H vs Q E hr h => ?_)
  · obtain ⟨x, dx, v0, v1, v2, rfl, _⟩ := h
    rfl
  · obtain ⟨x, dx, v0, v1, v2, rfl, hx, q⟩ := h
    refine ⟨_, (pss_one (ps_ret (pe_tup (pa_cons pe_str (pa_cons (fldK (K := K) rfl (pv 0) rfl) (pa_cons (fldK (K := K) rfl (pv 0) rfl) (pa_cons (fldK (K := K) rfl (pv 0) rfl) pa_nil))))))), ?_⟩
    have ccl := T.cl_CallRow
    have na0 := T.na_CallRow_name
    have na1 := T.na_CallRow_helper
    have na2 := T.na_CallRow_given
    walk_at "sy"
    exact q _ _ (by assumption)
theorem use_CallRow {T : Tx K mg} {H : Hp} {Q : VK} {E : XK} {v0 v1 v2 : V} {q0 : Addr} {us0 : List V} (e0 : v2 = .ref q0) (hq : H q0 = some (.tup us0)) (h : ∀ (x dx : Addr) (H' : Hp), New x (.ins T.a_CallRow dx (fsCallRow v0 v1 v2)) H H' → Q (.ref x) H') : kMake T.a_CallRow (spInitCallRow T) [] E [v0, v1, v2] H Q := by
  intro x dx hx hd hne
  refine ⟨x, dx, v0, v1, v2, rfl, upd_same, ⟨q0, us0, e0, by rw [upd_ne (ne_of_none hq hx), upd_ne (ne_of_none hq hd)]; exact hq⟩, fun H' sb hx' => ⟨rfl, h x dx H' ⟨hx, hx', sb.made hx hd⟩⟩⟩
abbrev fsBackRow (v0 : V) : List (Str × V) := putF "atom" v0 []
def spInitBackRow (T : Tx K mg) : Sp := fun vs H Q _ => ∃ (x dx : Addr) (v0 : V), vs = [.ref x, v0] ∧ H x = some (.ins T.a_BackRow dx []) ∧ ∀ H', SameBut x H H' → H' x = some (.ins T.a_BackRow dx (fsBackRow v0)) → Q .non H'
theorem ok_BackRow_init (T : Tx K mg) : FnOk P w K mg base CX0 1 T.f_BackRow_init T.d_BackRow_init ["self", "atom"] (spInitBackRow T) := by
  refine T.F_BackRow_init.ok sc_BackRow_init (fun vs H Q E h => ?_) (fun cdv A outer s H vs Q E hr h => ?_)
  · obtain ⟨x, dx, v0, rfl, _⟩ := h
    rfl
  · obtain ⟨x, dx, v0, rfl, hx, q⟩ := h
    refine ⟨_, (pss_one (ps_fld (pv 0) (pv 1) rfl)), ?_⟩
    have ccl := T.cl_BackRow
    have na0 := T.na_BackRow_atom
    walk_at "sy"
    exact q _ (by walk_at "bt") (by walk_at "look")
def spToldBackRow (T : Tx K mg) : Sp := fun vs H Q _ => ∃ (x dx : Addr) (v0 : V), vs = [.ref x] ∧ H x = some (.ins T.a_BackRow dx (fsBackRow v0)) ∧ ∀ (p : Addr) (H' : Hp), New p (.tup [.str "back", v0]) H H' → Q (.ref p) H'
theorem ok_BackRow_told (T : Tx K mg) : FnOk P w K mg base CX0 1 T.f_BackRow_told T.d_BackRow_told ["self"] (spToldBackRow T) := by
  refine T.F_BackRow_told.ok sc_BackRow_told (fun vs H Q E h => ?_) (fun cdv A outer s H vs Q E hr h => ?_)
  · obtain ⟨x, dx, v0, rfl, _⟩ := h
    rfl
  · obtain ⟨x, dx, v0, rfl, hx, q⟩ := h
    refine ⟨_, (pss_one (ps_ret (pe_tup (pa_cons pe_str (pa_cons (fldK (K := K) rfl (pv 0) rfl) pa_nil))))), ?_⟩
    have ccl := T.cl_BackRow
    have na0 := T.na_BackRow_atom
    walk_at "sy"
    exact q _ _ (by assumption)
theorem use_BackRow {T : Tx K mg} {H : Hp} {Q : VK} {E : XK} {v0 : V} (h : ∀ (x dx : Addr) (H' : Hp), New x (.ins T.a_BackRow dx (fsBackRow v0)) H H' → Q (.ref x) H') : kMake T.a_BackRow (spInitBackRow T) [] E [v0] H Q := by
  intro x dx hx hd hne
  refine ⟨x, dx, v0, rfl, upd_same, fun H' sb hx' => ⟨rfl, h x dx H' ⟨hx, hx', sb.made hx hd⟩⟩⟩
abbrev fsAskRow (v0 : V) : List (Str × V) := putF "name" v0 []
def spInitAskRow (T : Tx K mg) : Sp := fun vs H Q _ => ∃ (x dx : Addr) (v0 : V), vs = [.ref x, v0] ∧ H x = some (.ins T.a_AskRow dx []) ∧ ∀ H', SameBut x H H' → H' x = some (.ins T.a_AskRow dx (fsAskRow v0)) → Q .non H'
theorem ok_AskRow_init (T : Tx K mg) : FnOk P w K mg base CX0 1 T.f_AskRow_init T.d_AskRow_init ["self", "name"] (spInitAskRow T) := by
  refine T.F_AskRow_init.ok sc_AskRow_init (fun vs H Q E h => ?_) (fun cdv A outer s H vs Q E hr h => ?_)
  · obtain ⟨x, dx, v0, rfl, _⟩ := h
    rfl
  · obtain ⟨x, dx, v0, rfl, hx, q⟩ := h
    refine ⟨_, (pss_one (ps_fld (pv 0) (pv 1) rfl)), ?_⟩
    have ccl := T.cl_AskRow
    have na0 := T.na_AskRow_name
    walk_at "sy"
    exact q _ (by walk_at "bt") (by walk_at "look")
def spToldAskRow (T : Tx K mg) : Sp := fun vs H Q _ => ∃ (x dx : Addr) (v0 : V), vs = [.ref x] ∧ H x = some (.ins T.a_AskRow dx (fsAskRow v0)) ∧ ∀ (p : Addr) (H' : Hp), New p (.tup [.str "ask", v0]) H H' → Q (.ref p) H'
theorem ok_AskRow_told (T : Tx K mg) : FnOk P w K mg base CX0 1 T.f_AskRow_told T.d_AskRow_told ["self"] (spToldAskRow T) := by
  refine T.F_AskRow_told.ok sc_AskRow_told (fun vs H Q E h => ?_) (fun cdv A outer s H vs Q E hr h => ?_)
  · obtain ⟨x, dx, v0, rfl, _⟩ := h
    rfl
  · obtain ⟨x, dx, v0, rfl, hx, q⟩ := h
    refine ⟨_, (pss_one (ps_ret (pe_tup (pa_cons pe_str (pa_cons (fldK (K := K) rfl (pv 0) rfl) pa_nil))))), ?_⟩
    have ccl := T.cl_AskRow
    have na0 := T.na_AskRow_name
    walk_at "sy"
    exact q _ _ (by assumption)
theorem use_AskRow {T : Tx K mg} {H : Hp} {Q : VK} {E : XK} {v0 : V} (h : ∀ (x dx : Addr) (H' : Hp), New x (.ins T.a_AskRow dx (fsAskRow v0)) H H' → Q (.ref x) H') : kMake T.a_AskRow (spInitAskRow T) [] E [v0] H Q := by
  intro x dx hx hd hne
  refine ⟨x, dx, v0, rfl, upd_same, fun H' sb hx' => ⟨rfl, h x dx H' ⟨hx, hx', sb.made hx hd⟩⟩⟩
abbrev fsTellRow (v0 : V) : List (Str × V) := putF "atom" v0 []
def spInitTellRow (T : Tx K mg) : Sp := fun vs H Q _ => ∃ (x dx : Addr) (v0 : V), vs = [.ref x, v0] ∧ H x = some (.ins T.a_TellRow dx []) ∧ ∀ H', SameBut x H H' → H' x = some (.ins T.a_TellRow dx (fsTellRow v0)) → Q .non H'
theorem ok_TellRow_init (T : Tx K mg) : FnOk P w K mg base CX0 1 T.f_TellRow_init T.d_TellRow_init ["self", "atom"] (spInitTellRow T) := by
  refine T.F_TellRow_init.ok sc_TellRow_init (fun vs H Q E h => ?_) (fun cdv A outer s H vs Q E hr h => ?_)
  · obtain ⟨x, dx, v0, rfl, _⟩ := h
    rfl
  · obtain ⟨x, dx, v0, rfl, hx, q⟩ := h
    refine ⟨_, (pss_one (ps_fld (pv 0) (pv 1) rfl)), ?_⟩
    have ccl := T.cl_TellRow
    have na0 := T.na_TellRow_atom
    walk_at "sy"
    exact q _ (by walk_at "bt") (by walk_at "look")
def spToldTellRow (T : Tx K mg) : Sp := fun vs H Q _ => ∃ (x dx : Addr) (v0 : V), vs = [.ref x] ∧ H x = some (.ins T.a_TellRow dx (fsTellRow v0)) ∧ ∀ (p : Addr) (H' : Hp), New p (.tup [.str "tell", v0]) H H' → Q (.ref p) H'
theorem ok_TellRow_told (T : Tx K mg) : FnOk P w K mg base CX0 1 T.f_TellRow_told T.d_TellRow_told ["self"] (spToldTellRow T) := by
  refine T.F_TellRow_told.ok sc_TellRow_told (fun vs H Q E h => ?_) (fun cdv A outer s H vs Q E hr h => ?_)
  · obtain ⟨x, dx, v0, rfl, _⟩ := h
    rfl
  · obtain ⟨x, dx, v0, rfl, hx, q⟩ := h
    refine ⟨_, (pss_one (ps_ret (pe_tup (pa_cons pe_str (pa_cons (fldK (K := K) rfl (pv 0) rfl) pa_nil))))), ?_⟩
    have ccl := T.cl_TellRow
    have na0 := T.na_TellRow_atom
    walk_at "sy"
    exact q _ _ (by assumption)
theorem use_TellRow {T : Tx K mg} {H : Hp} {Q : VK} {E : XK} {v0 : V} (h : ∀ (x dx : Addr) (H' : Hp), New x (.ins T.a_TellRow dx (fsTellRow v0)) H H' → Q (.ref x) H') : kMake T.a_TellRow (spInitTellRow T) [] E [v0] H Q := by
  intro x dx hx hd hne
  refine ⟨x, dx, v0, rfl, upd_same, fun H' sb hx' => ⟨rfl, h x dx H' ⟨hx, hx', sb.made hx hd⟩⟩⟩
end
/-! ### classes that only lay their fields (printed by mkcls.py) -/
section
variable {P : Program} {w : World} {K : PySem.W.Frag} {mg : Str → Option Value} {base : Heap}
abbrev fsIfRow (v0 v1 v2 : V) : List (Str × V) := putF "others" v2 (putF "rows" v1 (putF "atom" v0 []))
def spInitIfRow (T : Tx K mg) : Sp := fun vs H Q _ => ∃ (x dx : Addr) (v0 v1 v2 : V), vs = [.ref x, v0, v1, v2] ∧ H x = some (.ins T.a_IfRow dx []) ∧ (∃ (q : Addr) (us : List V), v1 = .ref q ∧ H q = some (.tup us)) ∧ (∃ (q : Addr) (us : List V), v2 = .ref q ∧ H q = some (.tup us)) ∧ ∀ H', SameBut x H H' → H' x = some (.ins T.a_IfRow dx (fsIfRow v0 v1 v2)) → Q .non H'
theorem ok_IfRow_init (T : Tx K mg) : FnOk P w K mg base CX0 1 T.f_IfRow_init T.d_IfRow_init ["self", "atom", "rows", "others"] (spInitIfRow T) := by
  refine T.F_IfRow_init.ok sc_IfRow_init (fun vs H Q E h => ?_) (fun cdv A outer s H vs Q E hr h => ?_)
  · obtain ⟨x, dx, v0, v1, v2, rfl, _⟩ := h
    rfl
  · obtain ⟨x, dx, v0, v1, v2, rfl, hx, ⟨q1, us1, rfl, hq1⟩, ⟨q2, us2, rfl, hq2⟩, q⟩ := h
    refine ⟨_, (pss_cons (ps_fld (pv 0) (pv 1) rfl)
      (pss_cons (ps_fld (pv 0) (pe_callTy (tuple_ofK (K := K) rfl) (by rfl) T.n_tuple PyProof.Rows.boot_tuple (pa_cons (pv 2) pa_nil)) rfl)
      (pss_one (ps_fld (pv 0) (pe_callTy (tuple_ofK (K := K) rfl) (by rfl) T.n_tuple PyProof.Rows.boot_tuple (pa_cons (pv 3) pa_nil)) rfl)))), ?_⟩
    have ccl := T.cl_IfRow
    have na0 := T.na_IfRow_atom
    have na1 := T.na_IfRow_rows
    have na2 := T.na_IfRow_others
    walk_at "sy"
    exact q _ (by walk_at "bt") (by walk_at "look")
theorem use_IfRow {T : Tx K mg} {H : Hp} {Q : VK} {E : XK} {v0 v1 v2 : V} {q1 : Addr} {us1 : List V} (e1 : v1 = .ref q1) (hq1 : H q1 = some (.tup us1)) {q2 : Addr} {us2 : List V} (e2 : v2 = .ref q2) (hq2 : H q2 = some (.tup us2)) (h : ∀ (x dx : Addr) (H' : Hp), New x (.ins T.a_IfRow dx (fsIfRow v0 v1 v2)) H H' → Q (.ref x) H') : kMake T.a_IfRow (spInitIfRow T) [] E [v0, v1, v2] H Q := by
  intro x dx hx hd hne
  refine ⟨x, dx, v0, v1, v2, rfl, upd_same, ⟨q1, us1, e1, by rw [upd_ne (ne_of_none hq1 hx), upd_ne (ne_of_none hq1 hd)]; exact hq1⟩, ⟨q2, us2, e2, by rw [upd_ne (ne_of_none hq2 hx), upd_ne (ne_of_none hq2 hd)]; exact hq2⟩, fun H' sb hx' => ⟨rfl, h x dx H' ⟨hx, hx', sb.made hx hd⟩⟩⟩
abbrev fsWhileRow (v0 v1 : V) : List (Str × V) := putF "rows" v1 (putF "atom" v0 [])
def spInitWhileRow (T : Tx K mg) : Sp := fun vs H Q _ => ∃ (x dx : Addr) (v0 v1 : V), vs = [.ref x, v0, v1] ∧ H x = some (.ins T.a_WhileRow dx []) ∧ (∃ (q : Addr) (us : List V), v1 = .ref q ∧ H q = some (.tup us)) ∧ ∀ H', SameBut x H H' → H' x = some (.ins T.a_WhileRow dx (fsWhileRow v0 v1)) → Q .non H'
theorem ok_WhileRow_init (T : Tx K mg) : FnOk P w K mg base CX0 1 T.f_WhileRow_init T.d_WhileRow_init ["self", "atom", "rows"] (spInitWhileRow T) := by
  refine T.F_WhileRow_init.ok sc_WhileRow_init (fun vs H Q E h => ?_) (fun cdv A outer s H vs Q E hr h => ?_)
  · obtain ⟨x, dx, v0, v1, rfl, _⟩ := h
    rfl
  · obtain ⟨x, dx, v0, v1, rfl, hx, ⟨q1, us1, rfl, hq1⟩, q⟩ := h
    refine ⟨_, (pss_cons (ps_fld (pv 0) (pv 1) rfl)
      (pss_one (ps_fld (pv 0) (pe_callTy (tuple_ofK (K := K) rfl) (by rfl) T.n_tuple PyProof.Rows.boot_tuple (pa_cons (pv 2) pa_nil)) rfl))), ?_⟩
    have ccl := T.cl_WhileRow
    have na0 := T.na_WhileRow_atom
    have na1 := T.na_WhileRow_rows
    walk_at "sy"
    exact q _ (by walk_at "bt") (by walk_at "look")
theorem use_WhileRow {T : Tx K mg} {H : Hp} {Q : VK} {E : XK} {v0 v1 : V} {q1 : Addr} {us1 : List V} (e1 : v1 = .ref q1) (hq1 : H q1 = some (.tup us1)) (h : ∀ (x dx : Addr) (H' : Hp), New x (.ins T.a_WhileRow dx (fsWhileRow v0 v1)) H H' → Q (.ref x) H') : kMake T.a_WhileRow (spInitWhileRow T) [] E [v0, v1] H Q := by
  intro x dx hx hd hne
  refine ⟨x, dx, v0, v1, rfl, upd_same, ⟨q1, us1, e1, by rw [upd_ne (ne_of_none hq1 hx), upd_ne (ne_of_none hq1 hd)]; exact hq1⟩, fun H' sb hx' => ⟨rfl, h x dx H' ⟨hx, hx', sb.made hx hd⟩⟩⟩
abbrev fsRecord (v0 v1 : V) : List (Str × V) := putF "fields" v1 (putF "name" v0 [])
def spInitRecord (T : Tx K mg) : Sp := fun vs H Q _ => ∃ (x dx : Addr) (v0 v1 : V), vs = [.ref x, v0, v1] ∧ H x = some (.ins T.a_Record dx []) ∧ (∃ (q : Addr) (us : List V), v1 = .ref q ∧ H q = some (.tup us)) ∧ ∀ H', SameBut x H H' → H' x = some (.ins T.a_Record dx (fsRecord v0 v1)) → Q .non H'
theorem ok_Record_init (T : Tx K mg) : FnOk P w K mg base CX0 1 T.f_Record_init T.d_Record_init ["self", "name", "fields"] (spInitRecord T) := by
  refine T.F_Record_init.ok sc_Record_init (fun vs H Q E h => ?_) (fun cdv A outer s H vs Q E hr h => ?_)
  · obtain ⟨x, dx, v0, v1, rfl, _⟩ := h
    rfl
  · obtain ⟨x, dx, v0, v1, rfl, hx, ⟨q1, us1, rfl, hq1⟩, q⟩ := h
    refine ⟨_, (pss_cons (ps_fld (pv 0) (pv 1) rfl)
      (pss_one (ps_fld (pv 0) (pe_callTy (tuple_ofK (K := K) rfl) (by rfl) T.n_tuple PyProof.Rows.boot_tuple (pa_cons (pv 2) pa_nil)) rfl))), ?_⟩
    have ccl := T.cl_Record
    have na0 := T.na_Record_name
    have na1 := T.na_Record_fields
    walk_at "sy"
    exact q _ (by walk_at "bt") (by walk_at "look")
theorem use_Record {T : Tx K mg} {H : Hp} {Q : VK} {E : XK} {v0 v1 : V} {q1 : Addr} {us1 : List V} (e1 : v1 = .ref q1) (hq1 : H q1 = some (.tup us1)) (h : ∀ (x dx : Addr) (H' : Hp), New x (.ins T.a_Record dx (fsRecord v0 v1)) H H' → Q (.ref x) H') : kMake T.a_Record (spInitRecord T) [] E [v0, v1] H Q := by
  intro x dx hx hd hne
  refine ⟨x, dx, v0, v1, rfl, upd_same, ⟨q1, us1, e1, by rw [upd_ne (ne_of_none hq1 hx), upd_ne (ne_of_none hq1 hd)]; exact hq1⟩, fun H' sb hx' => ⟨rfl, h x dx H' ⟨hx, hx', sb.made hx hd⟩⟩⟩
abbrev fsHelper (v0 v1 v2 v3 : V) : List (Str × V) := putF "rows" v3 (putF "gives" v2 (putF "params" v1 (putF "name" v0 [])))
def spInitHelper (T : Tx K mg) : Sp := fun vs H Q _ => ∃ (x dx : Addr) (v0 v1 v2 v3 : V), vs = [.ref x, v0, v1, v2, v3] ∧ H x = some (.ins T.a_Helper dx []) ∧ (∃ (q : Addr) (us : List V), v1 = .ref q ∧ H q = some (.tup us)) ∧ (∃ (q : Addr) (us : List V), v3 = .ref q ∧ H q = some (.tup us)) ∧ ∀ H', SameBut x H H' → H' x = some (.ins T.a_Helper dx (fsHelper v0 v1 v2 v3)) → Q .non H'
theorem ok_Helper_init (T : Tx K mg) : FnOk P w K mg base CX0 1 T.f_Helper_init T.d_Helper_init ["self", "name", "params", "gives", "rows"] (spInitHelper T) := by
  refine T.F_Helper_init.ok sc_Helper_init (fun vs H Q E h => ?_) (fun cdv A outer s H vs Q E hr h => ?_)
  · obtain ⟨x, dx, v0, v1, v2, v3, rfl, _⟩ := h
    rfl
  · obtain ⟨x, dx, v0, v1, v2, v3, rfl, hx, ⟨q1, us1, rfl, hq1⟩, ⟨q3, us3, rfl, hq3⟩, q⟩ := h
    refine ⟨_, (pss_cons (ps_fld (pv 0) (pv 1) rfl)
      (pss_cons (ps_fld (pv 0) (pe_callTy (tuple_ofK (K := K) rfl) (by rfl) T.n_tuple PyProof.Rows.boot_tuple (pa_cons (pv 2) pa_nil)) rfl)
      (pss_cons (ps_fld (pv 0) (pv 3) rfl)
      (pss_one (ps_fld (pv 0) (pe_callTy (tuple_ofK (K := K) rfl) (by rfl) T.n_tuple PyProof.Rows.boot_tuple (pa_cons (pv 4) pa_nil)) rfl))))), ?_⟩
    have ccl := T.cl_Helper
    have na0 := T.na_Helper_name
    have na1 := T.na_Helper_params
    have na2 := T.na_Helper_gives
    have na3 := T.na_Helper_rows
    walk_at "sy"
    exact q _ (by walk_at "bt") (by walk_at "look")
theorem use_Helper {T : Tx K mg} {H : Hp} {Q : VK} {E : XK} {v0 v1 v2 v3 : V} {q1 : Addr} {us1 : List V} (e1 : v1 = .ref q1) (hq1 : H q1 = some (.tup us1)) {q3 : Addr} {us3 : List V} (e3 : v3 = .ref q3) (hq3 : H q3 = some (.tup us3)) (h : ∀ (x dx : Addr) (H' : Hp), New x (.ins T.a_Helper dx (fsHelper v0 v1 v2 v3)) H H' → Q (.ref x) H') : kMake T.a_Helper (spInitHelper T) [] E [v0, v1, v2, v3] H Q := by
  intro x dx hx hd hne
  refine ⟨x, dx, v0, v1, v2, v3, rfl, upd_same, ⟨q1, us1, e1, by rw [upd_ne (ne_of_none hq1 hx), upd_ne (ne_of_none hq1 hd)]; exact hq1⟩, ⟨q3, us3, e3, by rw [upd_ne (ne_of_none hq3 hx), upd_ne (ne_of_none hq3 hd)]; exact hq3⟩, fun H' sb hx' => ⟨rfl, h x dx H' ⟨hx, hx', sb.made hx hd⟩⟩⟩
abbrev fsProgram (v0 v1 : V) : List (Str × V) := putF "helpers" v1 (putF "records" v0 [])
def spInitProgram (T : Tx K mg) : Sp := fun vs H Q _ => ∃ (x dx : Addr) (v0 v1 : V), vs = [.ref x, v0, v1] ∧ H x = some (.ins T.a_Program dx []) ∧ (∃ (q : Addr) (us : List V), v0 = .ref q ∧ H q = some (.tup us)) ∧ (∃ (q : Addr) (us : List V), v1 = .ref q ∧ H q = some (.tup us)) ∧ ∀ H', SameBut x H H' → H' x = some (.ins T.a_Program dx (fsProgram v0 v1)) → Q .non H'
theorem ok_Program_init (T : Tx K mg) : FnOk P w K mg base CX0 1 T.f_Program_init T.d_Program_init ["self", "records", "helpers"] (spInitProgram T) := by
  refine T.F_Program_init.ok sc_Program_init (fun vs H Q E h => ?_) (fun cdv A outer s H vs Q E hr h => ?_)
  · obtain ⟨x, dx, v0, v1, rfl, _⟩ := h
    rfl
  · obtain ⟨x, dx, v0, v1, rfl, hx, ⟨q0, us0, rfl, hq0⟩, ⟨q1, us1, rfl, hq1⟩, q⟩ := h
    refine ⟨_, (pss_cons (ps_fld (pv 0) (pe_callTy (tuple_ofK (K := K) rfl) (by rfl) T.n_tuple PyProof.Rows.boot_tuple (pa_cons (pv 1) pa_nil)) rfl)
      (pss_one (ps_fld (pv 0) (pe_callTy (tuple_ofK (K := K) rfl) (by rfl) T.n_tuple PyProof.Rows.boot_tuple (pa_cons (pv 2) pa_nil)) rfl))), ?_⟩
    have ccl := T.cl_Program
    have na0 := T.na_Program_records
    have na1 := T.na_Program_helpers
    walk_at "sy"
    exact q _ (by walk_at "bt") (by walk_at "look")
theorem use_Program {T : Tx K mg} {H : Hp} {Q : VK} {E : XK} {v0 v1 : V} {q0 : Addr} {us0 : List V} (e0 : v0 = .ref q0) (hq0 : H q0 = some (.tup us0)) {q1 : Addr} {us1 : List V} (e1 : v1 = .ref q1) (hq1 : H q1 = some (.tup us1)) (h : ∀ (x dx : Addr) (H' : Hp), New x (.ins T.a_Program dx (fsProgram v0 v1)) H H' → Q (.ref x) H') : kMake T.a_Program (spInitProgram T) [] E [v0, v1] H Q := by
  intro x dx hx hd hne
  refine ⟨x, dx, v0, v1, rfl, upd_same, ⟨q0, us0, e0, by rw [upd_ne (ne_of_none hq0 hx), upd_ne (ne_of_none hq0 hd)]; exact hq0⟩, ⟨q1, us1, e1, by rw [upd_ne (ne_of_none hq1 hx), upd_ne (ne_of_none hq1 hd)]; exact hq1⟩, fun H' sb hx' => ⟨rfl, h x dx H' ⟨hx, hx', sb.made hx hd⟩⟩⟩
end
local macro_rules | `(tactic| walk_at "use") => `(tactic| ((with_reducible apply use_SetRow); intro x dx H' n))
local macro_rules | `(tactic| walk_at "use") => `(tactic| ((with_reducible apply use_MakeRow); (· exact rfl); (· walk_at "look"); intro x dx H' n))
local macro_rules | `(tactic| walk_at "use") => `(tactic| ((with_reducible apply use_NoneRow); intro x dx H' n))
local macro_rules | `(tactic| walk_at "use") => `(tactic| ((with_reducible apply use_GiveRow); intro x dx H' n))
local macro_rules | `(tactic| walk_at "use") => `(tactic| ((with_reducible apply use_TakeRow); intro x dx H' n))
local macro_rules | `(tactic| walk_at "use") => `(tactic| ((with_reducible apply use_FillRow); intro x dx H' n))
local macro_rules | `(tactic| walk_at "use") => `(tactic| ((with_reducible apply use_SwapRow); intro x dx H' n))
local macro_rules | `(tactic| walk_at "use") => `(tactic| ((with_reducible apply use_GetRow); intro x dx H' n))
local macro_rules | `(tactic| walk_at "use") => `(tactic| ((with_reducible apply use_PutRow); intro x dx H' n))
local macro_rules | `(tactic| walk_at "use") => `(tactic| ((with_reducible apply use_HasRow); intro x dx H' n))
local macro_rules | `(tactic| walk_at "use") => `(tactic| ((with_reducible apply use_DropRow); intro x dx H' n))
local macro_rules | `(tactic| walk_at "use") => `(tactic| ((with_reducible apply use_LendRow); intro x dx H' n))
local macro_rules | `(tactic| walk_at "use") => `(tactic| ((with_reducible apply use_StepRow); intro x dx H' n))
local macro_rules | `(tactic| walk_at "use") => `(tactic| ((with_reducible apply use_CallRow); (· exact rfl); (· walk_at "look"); intro x dx H' n))
local macro_rules | `(tactic| walk_at "use") => `(tactic| ((with_reducible apply use_BackRow); intro x dx H' n))
local macro_rules | `(tactic| walk_at "use") => `(tactic| ((with_reducible apply use_AskRow); intro x dx H' n))
local macro_rules | `(tactic| walk_at "use") => `(tactic| ((with_reducible apply use_TellRow); intro x dx H' n))
local macro_rules | `(tactic| walk_at "use") => `(tactic| ((with_reducible apply use_IfRow); (· exact rfl); (· walk_at "look"); (· exact rfl); (· walk_at "look"); intro x dx H' n))
local macro_rules | `(tactic| walk_at "use") => `(tactic| ((with_reducible apply use_WhileRow); (· exact rfl); (· walk_at "look"); intro x dx H' n))
local macro_rules | `(tactic| walk_at "use") => `(tactic| ((with_reducible apply use_Record); (· exact rfl); (· walk_at "look"); intro x dx H' n))
local macro_rules | `(tactic| walk_at "use") => `(tactic| ((with_reducible apply use_Helper); (· exact rfl); (· walk_at "look"); (· exact rfl); (· walk_at "look"); intro x dx H' n))
local macro_rules | `(tactic| walk_at "use") => `(tactic| ((with_reducible apply use_Program); (· exact rfl); (· walk_at "look"); (· exact rfl); (· walk_at "look"); intro x dx H' n))
section
variable {P : Program} {w : World} {K : PySem.W.Frag} {mg : Str → Option Value} {base : Heap}
/-- a row as an object -/
def RowAt (T : Tx K mg) (H : Hp) : Rw → V → Prop
  | .set x0 x1 x2 x3, v => ∃ (p dx : Addr) (v0 v1 v2 v3 : V), v = .ref p ∧ H p = some (.ins T.a_SetRow dx (fsSetRow v0 v1 v2 v3)) ∧ IsD H (Dt.str x0) v0 ∧ IsD H (atD x1) v1 ∧ IsD H (Dt.str x2) v2 ∧ IsD H (atD x3) v3
  | .make x0 x1 x2, v => ∃ (p dx : Addr) (v0 v1 v2 : V), v = .ref p ∧ H p = some (.ins T.a_MakeRow dx (fsMakeRow v0 v1 v2)) ∧ IsD H (Dt.str x0) v0 ∧ IsD H (Dt.str x1) v1 ∧ IsD H (Dt.tup (x2.map atD)) v2
  | .non x0 x1, v => ∃ (p dx : Addr) (v0 v1 : V), v = .ref p ∧ H p = some (.ins T.a_NoneRow dx (fsNoneRow v0 v1)) ∧ IsD H (Dt.str x0) v0 ∧ IsD H (Dt.str x1) v1
  | .give x0 x1, v => ∃ (p dx : Addr) (v0 v1 : V), v = .ref p ∧ H p = some (.ins T.a_GiveRow dx (fsGiveRow v0 v1)) ∧ IsD H (Dt.str x0) v0 ∧ IsD H (Dt.str x1) v1
  | .take x0 x1, v => ∃ (p dx : Addr) (v0 v1 : V), v = .ref p ∧ H p = some (.ins T.a_TakeRow dx (fsTakeRow v0 v1)) ∧ IsD H (Dt.str x0) v0 ∧ IsD H (pathD x1) v1
  | .fill x0 x1, v => ∃ (p dx : Addr) (v0 v1 : V), v = .ref p ∧ H p = some (.ins T.a_FillRow dx (fsFillRow v0 v1)) ∧ IsD H (pathD x0) v0 ∧ IsD H (Dt.str x1) v1
  | .swap x0 x1, v => ∃ (p dx : Addr) (v0 v1 : V), v = .ref p ∧ H p = some (.ins T.a_SwapRow dx (fsSwapRow v0 v1)) ∧ IsD H (Dt.str x0) v0 ∧ IsD H (pathD x1) v1
  | .get x0 x1, v => ∃ (p dx : Addr) (v0 v1 : V), v = .ref p ∧ H p = some (.ins T.a_GetRow dx (fsGetRow v0 v1)) ∧ IsD H (Dt.str x0) v0 ∧ IsD H (pathD x1) v1
  | .put x0 x1, v => ∃ (p dx : Addr) (v0 v1 : V), v = .ref p ∧ H p = some (.ins T.a_PutRow dx (fsPutRow v0 v1)) ∧ IsD H (pathD x0) v0 ∧ IsD H (atD x1) v1
  | .has x0 x1, v => ∃ (p dx : Addr) (v0 v1 : V), v = .ref p ∧ H p = some (.ins T.a_HasRow dx (fsHasRow v0 v1)) ∧ IsD H (Dt.str x0) v0 ∧ IsD H (pathD x1) v1
  | .drop x0, v => ∃ (p dx : Addr) (v0 : V), v = .ref p ∧ H p = some (.ins T.a_DropRow dx (fsDropRow v0)) ∧ IsD H (Dt.str x0) v0
  | .lend x0 x1 x2, v => ∃ (p dx : Addr) (v0 v1 v2 : V), v = .ref p ∧ H p = some (.ins T.a_LendRow dx (fsLendRow v0 v1 v2)) ∧ IsD H (Dt.str (modeS x0)) v0 ∧ IsD H (Dt.str x1) v1 ∧ IsD H (pathD x2) v2
  | .step x0 x1, v => ∃ (p dx : Addr) (v0 v1 : V), v = .ref p ∧ H p = some (.ins T.a_StepRow dx (fsStepRow v0 v1)) ∧ IsD H (Dt.str x0) v0 ∧ IsD H (Dt.str x1) v1
  | .call x0 x1 x2, v => ∃ (p dx : Addr) (v0 v1 v2 : V), v = .ref p ∧ H p = some (.ins T.a_CallRow dx (fsCallRow v0 v1 v2)) ∧ IsD H (optD x0) v0 ∧ IsD H (Dt.str x1) v1 ∧ IsD H (Dt.tup (x2.map gvD)) v2
  | .back x0, v => ∃ (p dx : Addr) (v0 : V), v = .ref p ∧ H p = some (.ins T.a_BackRow dx (fsBackRow v0)) ∧ IsD H (atD x0) v0
  | .ask x0, v => ∃ (p dx : Addr) (v0 : V), v = .ref p ∧ H p = some (.ins T.a_AskRow dx (fsAskRow v0)) ∧ IsD H (Dt.str x0) v0
  | .tell x0, v => ∃ (p dx : Addr) (v0 : V), v = .ref p ∧ H p = some (.ins T.a_TellRow dx (fsTellRow v0)) ∧ IsD H (atD x0) v0
theorem RowAt.keep {T : Tx K mg} {H H' : Hp} (k : Keep H H') : ∀ {r : Rw} {v : V}, RowAt T H r v → RowAt T H' r v
  | .set _ _ _ _, _, ⟨p, dx, v0, v1, v2, v3, e, h, h0, h1, h2, h3⟩ => ⟨p, dx, v0, v1, v2, v3, e, k _ _ h trivial, h0.keep k, h1.keep k, h2.keep k, h3.keep k⟩
  | .make _ _ _, _, ⟨p, dx, v0, v1, v2, e, h, h0, h1, h2⟩ => ⟨p, dx, v0, v1, v2, e, k _ _ h trivial, h0.keep k, h1.keep k, h2.keep k⟩
  | .non _ _, _, ⟨p, dx, v0, v1, e, h, h0, h1⟩ => ⟨p, dx, v0, v1, e, k _ _ h trivial, h0.keep k, h1.keep k⟩
  | .give _ _, _, ⟨p, dx, v0, v1, e, h, h0, h1⟩ => ⟨p, dx, v0, v1, e, k _ _ h trivial, h0.keep k, h1.keep k⟩
  | .take _ _, _, ⟨p, dx, v0, v1, e, h, h0, h1⟩ => ⟨p, dx, v0, v1, e, k _ _ h trivial, h0.keep k, h1.keep k⟩
  | .fill _ _, _, ⟨p, dx, v0, v1, e, h, h0, h1⟩ => ⟨p, dx, v0, v1, e, k _ _ h trivial, h0.keep k, h1.keep k⟩
  | .swap _ _, _, ⟨p, dx, v0, v1, e, h, h0, h1⟩ => ⟨p, dx, v0, v1, e, k _ _ h trivial, h0.keep k, h1.keep k⟩
  | .get _ _, _, ⟨p, dx, v0, v1, e, h, h0, h1⟩ => ⟨p, dx, v0, v1, e, k _ _ h trivial, h0.keep k, h1.keep k⟩
  | .put _ _, _, ⟨p, dx, v0, v1, e, h, h0, h1⟩ => ⟨p, dx, v0, v1, e, k _ _ h trivial, h0.keep k, h1.keep k⟩
  | .has _ _, _, ⟨p, dx, v0, v1, e, h, h0, h1⟩ => ⟨p, dx, v0, v1, e, k _ _ h trivial, h0.keep k, h1.keep k⟩
  | .drop _, _, ⟨p, dx, v0, e, h, h0⟩ => ⟨p, dx, v0, e, k _ _ h trivial, h0.keep k⟩
  | .lend _ _ _, _, ⟨p, dx, v0, v1, v2, e, h, h0, h1, h2⟩ => ⟨p, dx, v0, v1, v2, e, k _ _ h trivial, h0.keep k, h1.keep k, h2.keep k⟩
  | .step _ _, _, ⟨p, dx, v0, v1, e, h, h0, h1⟩ => ⟨p, dx, v0, v1, e, k _ _ h trivial, h0.keep k, h1.keep k⟩
  | .call _ _ _, _, ⟨p, dx, v0, v1, v2, e, h, h0, h1, h2⟩ => ⟨p, dx, v0, v1, v2, e, k _ _ h trivial, h0.keep k, h1.keep k, h2.keep k⟩
  | .back _, _, ⟨p, dx, v0, e, h, h0⟩ => ⟨p, dx, v0, e, k _ _ h trivial, h0.keep k⟩
  | .ask _, _, ⟨p, dx, v0, e, h, h0⟩ => ⟨p, dx, v0, e, k _ _ h trivial, h0.keep k⟩
  | .tell _, _, ⟨p, dx, v0, e, h, h0⟩ => ⟨p, dx, v0, e, k _ _ h trivial, h0.keep k⟩
def isBox : Rw → Bool
  | .set _ _ _ _ => false
  | .make _ _ _ => true
  | .non _ _ => true
  | .give _ _ => true
  | .take _ _ => true
  | .fill _ _ => true
  | .swap _ _ => true
  | .get _ _ => true
  | .put _ _ => true
  | .has _ _ => true
  | .drop _ => true
  | .lend _ _ _ => false
  | .step _ _ => false
  | .call _ _ _ => false
  | .back _ => false
  | .ask _ => false
  | .tell _ => false
def spRow (T : Tx K mg) (f : Rw → Bool) : Sp := fun vs H Q _ => ∃ (v : V) (r : Rw), vs = [v] ∧ IsD H (toldD r) v ∧ f r = true ∧ ∀ (H' : Hp) (v' : V), Same H H' → RowAt T H' r v' → Q v' H'
theorem FnOk_or {k : Nat} {f : Addr} {fd : FuncData} {ps : List Str} {sp sp1 sp2 : Sp} (F1 : FnOk P w K mg base CX0 k f fd ps sp1) (F2 : FnOk P w K mg base CX0 k f fd ps sp2) (h : ∀ vs H Q E, sp vs H Q E → sp1 vs H Q E ∨ sp2 vs H Q E) : FnOk P w K mg base CX0 k f fd ps sp :=
  ⟨fun vs H Q E q => (h _ _ _ _ q).elim (F1.len vs H Q E) (F2.len vs H Q E), fun A outer s H args us vs Q E hr he hb hv hs => (h _ _ _ _ hs).elim (F1.run A outer s H args us vs Q E hr he hb hv) (F2.run A outer s H args us vs Q E hr he hb hv)⟩
/-- the words that row_of asks for ahead of the boxes -/
theorem box_word {r : Rw} (h : isBox r = true) : ∃ (w : Str) (ds : List Dt), toldD r = .tup (.str w :: ds) ∧ ¬ w = Str.ofString "if" ∧ ¬ w = Str.ofString "while" ∧ ¬ w = Str.ofString "set" ∧ ¬ w = Str.ofString "look" ∧ ¬ w = Str.ofString "hand" ∧ ¬ w = Str.ofString "step" ∧ ¬ w = Str.ofString "call" ∧ ¬ w = Str.ofString "back" ∧ ¬ w = Str.ofString "ask" ∧ ¬ w = Str.ofString "tell" := by
  cases r <;> first | (cases h; done) | exact ⟨_, _, rfl, by decide +kernel, by decide +kernel, by decide +kernel, by decide +kernel, by decide +kernel, by decide +kernel, by decide +kernel, by decide +kernel, by decide +kernel, by decide +kernel⟩
end
/-! ### rows, blocks, records, helpers: data and objects -/
inductive El where
  | row (r : Rw)
  | iff (a : At) (rs os : List El)
  | whl (a : At) (rs : List El)
  | rcd (n : Str) (fs : List Dt)
  | hel (n : Str) (ps : List Dt) (g : Option Str) (rs : List El)
mutual
def elD : El → Dt
  | .row r => toldD r
  | .iff a rs os => .tup [.str "if", atD a, .tup (elDs rs), .tup (elDs os)]
  | .whl a rs => .tup [.str "while", atD a, .tup (elDs rs)]
  | .rcd n fs => .tup [.str "record", .str n, .tup fs]
  | .hel n ps g rs => .tup [.str "helper", .str n, .tup ps, optD g, .tup (elDs rs)]
def elDs : List El → List Dt
  | [] => []
  | r :: rs => elD r :: elDs rs
end
theorem elDs_eq : ∀ rs : List El, elDs rs = rs.map elD
  | [] => rfl
  | r :: rs => by
    show elD r :: elDs rs = elD r :: rs.map elD
    rw [elDs_eq rs]
theorem elDs_snoc (rs : List El) (r : El) : elDs (rs ++ [r]) = elDs rs ++ [elD r] := by rw [elDs_eq, elDs_eq, List.map_append]; rfl
theorem elDs_len (rs : List El) : (elDs rs).length = rs.length := by rw [elDs_eq, List.length_map]
theorem elD_at {rs : List El} {i : Nat} {d : Dt} (h : (elDs rs)[i]? = some d) : ∃ r, rs[i]? = some r ∧ d = elD r := by
  rw [elDs_eq, List.getElem?_map] at h
  obtain ⟨r, h1, h2⟩ := Option.map_eq_some_iff.mp h
  exact ⟨r, h1, h2.symm⟩
/-- at most d within one another -/
def okE : Nat → El → Prop
  | _, .row _ => True
  | _, .rcd _ _ => True
  | 0, .iff _ _ _ => False
  | 0, .whl _ _ => False
  | 0, .hel _ _ _ _ => False
  | d + 1, .iff _ rs os => rs.length ≤ 1000 ∧ os.length ≤ 1000 ∧ (∀ r ∈ rs, okE d r) ∧ ∀ r ∈ os, okE d r
  | d + 1, .whl _ rs => rs.length ≤ 1000 ∧ ∀ r ∈ rs, okE d r
  | d + 1, .hel _ _ _ rs => rs.length ≤ 1000 ∧ ∀ r ∈ rs, okE d r
theorem okE_up : ∀ {d : Nat} {r : El}, okE d r → okE (d + 1) r
  | 0, .row _, h => h
  | 0, .rcd _ _, h => h
  | _ + 1, .row _, h => h
  | _ + 1, .rcd _ _, h => h
  | d + 1, .iff _ rs os, ⟨h2, h3, h4, h5⟩ => ⟨h2, h3, fun r m => okE_up (h4 r m), fun r m => okE_up (h5 r m)⟩
  | d + 1, .whl _ rs, ⟨h2, h3⟩ => ⟨h2, fun r m => okE_up (h3 r m)⟩
  | d + 1, .hel _ _ _ rs, ⟨h2, h3⟩ => ⟨h2, fun r m => okE_up (h3 r m)⟩
theorem okE_le {d : Nat} {r : El} (h : okE d r) : ∀ {e : Nat}, d ≤ e → okE e r
  | 0, l => by
    obtain rfl : d = 0 := by omega
    exact h
  | e + 1, l => by
    by_cases q : d = e + 1
    · rw [← q]
      exact h
    · exact okE_up (okE_le h (by omega))
section
variable {P : Program} {w : World} {K : PySem.W.Frag} {mg : Str → Option Value} {base : Heap}
mutual
def ElAt (T : Tx K mg) (H : Hp) : El → V → Prop
  | .row r, v => RowAt T H r v
  | .iff a rs os, v => ∃ (p dx q1 q2 : Addr) (v0 : V) (us1 us2 : List V), v = .ref p ∧ H p = some (.ins T.a_IfRow dx (fsIfRow v0 (.ref q1) (.ref q2))) ∧ IsD H (atD a) v0 ∧ H q1 = some (.tup us1) ∧ ElsAt T H rs us1 ∧ H q2 = some (.tup us2) ∧ ElsAt T H os us2
  | .whl a rs, v => ∃ (p dx q1 : Addr) (v0 : V) (us1 : List V), v = .ref p ∧ H p = some (.ins T.a_WhileRow dx (fsWhileRow v0 (.ref q1))) ∧ IsD H (atD a) v0 ∧ H q1 = some (.tup us1) ∧ ElsAt T H rs us1
  | .rcd n fs, v => ∃ (p dx : Addr) (v1 : V), v = .ref p ∧ H p = some (.ins T.a_Record dx (fsRecord (.str n) v1)) ∧ IsD H (.tup fs) v1
  | .hel n ps g rs, v => ∃ (p dx q1 : Addr) (v1 v2 : V) (us1 : List V), v = .ref p ∧ H p = some (.ins T.a_Helper dx (fsHelper (.str n) v1 v2 (.ref q1))) ∧ IsD H (.tup ps) v1 ∧ IsD H (optD g) v2 ∧ H q1 = some (.tup us1) ∧ ElsAt T H rs us1
def ElsAt (T : Tx K mg) (H : Hp) : List El → List V → Prop
  | [], us => us = []
  | r :: rs, us => ∃ v u, us = v :: u ∧ ElAt T H r v ∧ ElsAt T H rs u
end
mutual
theorem ElAt.keep {T : Tx K mg} {H H' : Hp} (k : Keep H H') : ∀ {r : El} {v : V}, ElAt T H r v → ElAt T H' r v
  | .row _, _, h => RowAt.keep k h
  | .iff _ _ _, _, ⟨p, dx, q1, q2, v0, us1, us2, e, h, h0, h1, g1, h2, g2⟩ => ⟨p, dx, q1, q2, v0, us1, us2, e, k _ _ h trivial, h0.keep k, k _ _ h1 trivial, ElsAt.keep k g1, k _ _ h2 trivial, ElsAt.keep k g2⟩
  | .whl _ _, _, ⟨p, dx, q1, v0, us1, e, h, h0, h1, g1⟩ => ⟨p, dx, q1, v0, us1, e, k _ _ h trivial, h0.keep k, k _ _ h1 trivial, ElsAt.keep k g1⟩
  | .rcd _ _, _, ⟨p, dx, v1, e, h, h1⟩ => ⟨p, dx, v1, e, k _ _ h trivial, h1.keep k⟩
  | .hel _ _ _ _, _, ⟨p, dx, q1, v1, v2, us1, e, h, h1, h2, h3, g1⟩ => ⟨p, dx, q1, v1, v2, us1, e, k _ _ h trivial, h1.keep k, h2.keep k, k _ _ h3 trivial, ElsAt.keep k g1⟩
theorem ElsAt.keep {T : Tx K mg} {H H' : Hp} (k : Keep H H') : ∀ {rs : List El} {us : List V}, ElsAt T H rs us → ElsAt T H' rs us
  | [], _, h => h
  | _ :: _, _, ⟨v, u, e, h, g⟩ => ⟨v, u, e, ElAt.keep k h, ElsAt.keep k g⟩
end
theorem ElsAt.len {T : Tx K mg} {H : Hp} : ∀ {rs : List El} {us : List V}, ElsAt T H rs us → us.length = rs.length
  | [], _, h => by
    have h : _ = _ := h
    subst h
    rfl
  | _ :: rs, _, ⟨v, u, e, _, h2⟩ => by
    subst e
    simp [ElsAt.len h2]
theorem ElsAt.at {T : Tx K mg} {H : Hp} : ∀ {rs : List El} {us : List V} {i : Nat} {v : V}, ElsAt T H rs us → us[i]? = some v → ∃ r, rs[i]? = some r ∧ ElAt T H r v
  | [], _, i, v, h, e => by
    have h : _ = _ := h
    subst h
    simp at e
  | r :: rs, _, 0, v, ⟨w, u, e, h1, _⟩, h => by
    subst e
    simp at h
    subst h
    exact ⟨r, rfl, h1⟩
  | r :: rs, _, i + 1, v, ⟨w, u, e, _, h2⟩, h => by
    subst e
    obtain ⟨q, q1, q2⟩ := ElsAt.at (i := i) h2 (by simpa using h)
    exact ⟨q, by simpa using q1, q2⟩
theorem ElsAt.snoc {T : Tx K mg} {H : Hp} {r : El} {v : V} (h : ElAt T H r v) : ∀ {rs : List El} {us : List V}, ElsAt T H rs us → ElsAt T H (rs ++ [r]) (us ++ [v])
  | [], _, e => by
    have e : _ = _ := e
    subst e
    exact ⟨v, [], rfl, h, rfl⟩
  | _ :: _, _, ⟨w, u, e, h1, h2⟩ => by
    subst e
    exact ⟨w, _, rfl, h1, ElsAt.snoc h h2⟩
theorem take_snoc {α : Type} {l : List α} {i : Nat} {x : α} (h : l[i]? = some x) : l.take (i + 1) = l.take i ++ [x] := by
  rw [List.take_add_one, h]
  rfl
/-- rows and blocks, at most d within one another -/
def okM : Nat → El → Prop
  | _, .row _ => True
  | _, .rcd _ _ => False
  | _, .hel _ _ _ _ => False
  | 0, .iff _ _ _ => False
  | 0, .whl _ _ => False
  | d + 1, .iff _ rs os => rs.length ≤ 1000 ∧ os.length ≤ 1000 ∧ (∀ r ∈ rs, okM d r) ∧ ∀ r ∈ os, okM d r
  | d + 1, .whl _ rs => rs.length ≤ 1000 ∧ ∀ r ∈ rs, okM d r
theorem okM_ok : ∀ {d : Nat} {r : El}, okM d r → okE d r
  | 0, .row _, _ => trivial
  | _ + 1, .row _, _ => trivial
  | d + 1, .iff _ rs os, ⟨h2, h3, h4, h5⟩ => ⟨h2, h3, fun r m => okM_ok (h4 r m), fun r m => okM_ok (h5 r m)⟩
  | d + 1, .whl _ rs, ⟨h2, h3⟩ => ⟨h2, fun r m => okM_ok (h3 r m)⟩
/-- a row or block made of what it tells -/
def spEl (T : Tx K mg) (d : Nat) : Sp := fun vs H Q _ => ∃ (v : V) (e : El), vs = [v] ∧ IsD H (elD e) v ∧ okM d e ∧ ∀ (H' : Hp) (v' : V), Same H H' → ElAt T H' e v' → Q v' H'
/-- what an element tells -/
def kindE : El → Nat
  | .iff _ _ _ => 0
  | .whl _ _ => 1
  | .rcd _ _ => 2
  | .hel _ _ _ _ => 3
  | .row _ => 4
def spTold (T : Tx K mg) (d : Nat) (n : Nat) : Sp := fun vs H Q _ => ∃ (e : El) (v : V), vs = [v] ∧ ElAt T H e v ∧ okE d e ∧ kindE e = n ∧ ∀ u H', Same H H' → IsD H' (elD e) u → Q u H'
def spAll (T : Tx K mg) (d : Nat) : Sp := fun vs H Q _ => ∃ (p : Addr) (us : List V) (es : List El), vs = [.ref p] ∧ H p = some (.tup us) ∧ ElsAt T H es us ∧ es.length ≤ 1000 ∧ (∀ e ∈ es, okE d e) ∧ ∀ (H' : Hp) (q : Addr) (ws : List V), Same H H' → H' q = some (.tup ws) → IsDs H' (elDs es) ws → Q (.ref q) H'
end
section
variable {P : Program} {w : World} {K : PySem.W.Frag} {mg : Str → Option Value} {base : Heap}
def tTold21 (T : Tx K mg) (d i : Nat) : TE := tAlt (tMeth T.a_SetRow "told" (spToldSetRow T) [] E0 (tVar i) tNil) (tAlt (tMeth T.a_MakeRow "told" (spToldMakeRow T) [] E0 (tVar i) tNil) (tAlt (tMeth T.a_NoneRow "told" (spToldNoneRow T) [] E0 (tVar i) tNil) (tAlt (tMeth T.a_GiveRow "told" (spToldGiveRow T) [] E0 (tVar i) tNil) (tAlt (tMeth T.a_TakeRow "told" (spToldTakeRow T) [] E0 (tVar i) tNil) (tAlt (tMeth T.a_FillRow "told" (spToldFillRow T) [] E0 (tVar i) tNil) (tAlt (tMeth T.a_SwapRow "told" (spToldSwapRow T) [] E0 (tVar i) tNil) (tAlt (tMeth T.a_GetRow "told" (spToldGetRow T) [] E0 (tVar i) tNil) (tAlt (tMeth T.a_PutRow "told" (spToldPutRow T) [] E0 (tVar i) tNil) (tAlt (tMeth T.a_HasRow "told" (spToldHasRow T) [] E0 (tVar i) tNil) (tAlt (tMeth T.a_DropRow "told" (spToldDropRow T) [] E0 (tVar i) tNil) (tAlt (tMeth T.a_LendRow "told" (spToldLendRow T) [] E0 (tVar i) tNil) (tAlt (tMeth T.a_StepRow "told" (spToldStepRow T) [] E0 (tVar i) tNil) (tAlt (tMeth T.a_CallRow "told" (spToldCallRow T) [] E0 (tVar i) tNil) (tAlt (tMeth T.a_BackRow "told" (spToldBackRow T) [] E0 (tVar i) tNil) (tAlt (tMeth T.a_AskRow "told" (spToldAskRow T) [] E0 (tVar i) tNil) (tAlt (tMeth T.a_TellRow "told" (spToldTellRow T) [] E0 (tVar i) tNil) (tAlt (tMeth T.a_IfRow "told" (spTold T d 0) [] E0 (tVar i) tNil) (tAlt (tMeth T.a_WhileRow "told" (spTold T d 1) [] E0 (tVar i) tNil) (tAlt (tMeth T.a_Record "told" (spTold T d 2) [] E0 (tVar i) tNil) (tMeth T.a_Helper "told" (spTold T d 3) [] E0 (tVar i) tNil))))))))))))))))))))
variable {σ : St} {H : Hp} {Q : VK} {T : Tx K mg} {v : V} {d i : Nat}
theorem told_row {r : Rw} (hσ : σ[i]? = some (some v)) (hv : RowAt T H r v) (q : ∀ u H', Same H H' → IsD H' (toldD r) u → Q u H') : tTold21 T d i σ H Q := by
  have hv0 := hv
  cases r with
  | set x0 x1 x2 x3 =>
    obtain ⟨p, dx, v0, v1, v2, v3, rfl, hp, h0, h1, h2, h3⟩ := hv
    exact .inl (⟨_, hσ, p, dx, _, rfl, hp, rfl, p, dx, v0, v1, v2, v3, rfl, hp, fun p2 H2 n2 => q _ _ n2.same ⟨_, _, rfl, n2.at_, ⟨_, _, rfl, rfl, ⟨_, _, rfl, h0.keep n2.keep, ⟨_, _, rfl, h1.keep n2.keep, ⟨_, _, rfl, h2.keep n2.keep, ⟨_, _, rfl, h3.keep n2.keep, rfl⟩⟩⟩⟩⟩⟩⟩)
  | make x0 x1 x2 =>
    obtain ⟨p, dx, v0, v1, v2, rfl, hp, h0, h1, h2⟩ := hv
    exact .inr (.inl (⟨_, hσ, p, dx, _, rfl, hp, rfl, p, dx, v0, v1, v2, rfl, hp, fun p2 H2 n2 => q _ _ n2.same ⟨_, _, rfl, n2.at_, ⟨_, _, rfl, rfl, ⟨_, _, rfl, h0.keep n2.keep, ⟨_, _, rfl, h1.keep n2.keep, ⟨_, _, rfl, h2.keep n2.keep, rfl⟩⟩⟩⟩⟩⟩))
  | non x0 x1 =>
    obtain ⟨p, dx, v0, v1, rfl, hp, h0, h1⟩ := hv
    exact .inr (.inr (.inl (⟨_, hσ, p, dx, _, rfl, hp, rfl, p, dx, v0, v1, rfl, hp, fun p2 H2 n2 => q _ _ n2.same ⟨_, _, rfl, n2.at_, ⟨_, _, rfl, rfl, ⟨_, _, rfl, h0.keep n2.keep, ⟨_, _, rfl, h1.keep n2.keep, rfl⟩⟩⟩⟩⟩)))
  | give x0 x1 =>
    obtain ⟨p, dx, v0, v1, rfl, hp, h0, h1⟩ := hv
    exact .inr (.inr (.inr (.inl (⟨_, hσ, p, dx, _, rfl, hp, rfl, p, dx, v0, v1, rfl, hp, fun p2 H2 n2 => q _ _ n2.same ⟨_, _, rfl, n2.at_, ⟨_, _, rfl, rfl, ⟨_, _, rfl, h0.keep n2.keep, ⟨_, _, rfl, h1.keep n2.keep, rfl⟩⟩⟩⟩⟩))))
  | take x0 x1 =>
    obtain ⟨p, dx, v0, v1, rfl, hp, h0, h1⟩ := hv
    exact .inr (.inr (.inr (.inr (.inl (⟨_, hσ, p, dx, _, rfl, hp, rfl, p, dx, v0, v1, rfl, hp, fun p2 H2 n2 => q _ _ n2.same ⟨_, _, rfl, n2.at_, ⟨_, _, rfl, rfl, ⟨_, _, rfl, h0.keep n2.keep, ⟨_, _, rfl, h1.keep n2.keep, rfl⟩⟩⟩⟩⟩)))))
  | fill x0 x1 =>
    obtain ⟨p, dx, v0, v1, rfl, hp, h0, h1⟩ := hv
    exact .inr (.inr (.inr (.inr (.inr (.inl (⟨_, hσ, p, dx, _, rfl, hp, rfl, p, dx, v0, v1, rfl, hp, fun p2 H2 n2 => q _ _ n2.same ⟨_, _, rfl, n2.at_, ⟨_, _, rfl, rfl, ⟨_, _, rfl, h0.keep n2.keep, ⟨_, _, rfl, h1.keep n2.keep, rfl⟩⟩⟩⟩⟩))))))
  | swap x0 x1 =>
    obtain ⟨p, dx, v0, v1, rfl, hp, h0, h1⟩ := hv
    exact .inr (.inr (.inr (.inr (.inr (.inr (.inl (⟨_, hσ, p, dx, _, rfl, hp, rfl, p, dx, v0, v1, rfl, hp, fun p2 H2 n2 => q _ _ n2.same ⟨_, _, rfl, n2.at_, ⟨_, _, rfl, rfl, ⟨_, _, rfl, h0.keep n2.keep, ⟨_, _, rfl, h1.keep n2.keep, rfl⟩⟩⟩⟩⟩)))))))
  | get x0 x1 =>
    obtain ⟨p, dx, v0, v1, rfl, hp, h0, h1⟩ := hv
    exact .inr (.inr (.inr (.inr (.inr (.inr (.inr (.inl (⟨_, hσ, p, dx, _, rfl, hp, rfl, p, dx, v0, v1, rfl, hp, fun p2 H2 n2 => q _ _ n2.same ⟨_, _, rfl, n2.at_, ⟨_, _, rfl, rfl, ⟨_, _, rfl, h0.keep n2.keep, ⟨_, _, rfl, h1.keep n2.keep, rfl⟩⟩⟩⟩⟩))))))))
  | put x0 x1 =>
    obtain ⟨p, dx, v0, v1, rfl, hp, h0, h1⟩ := hv
    exact .inr (.inr (.inr (.inr (.inr (.inr (.inr (.inr (.inl (⟨_, hσ, p, dx, _, rfl, hp, rfl, p, dx, v0, v1, rfl, hp, fun p2 H2 n2 => q _ _ n2.same ⟨_, _, rfl, n2.at_, ⟨_, _, rfl, rfl, ⟨_, _, rfl, h0.keep n2.keep, ⟨_, _, rfl, h1.keep n2.keep, rfl⟩⟩⟩⟩⟩)))))))))
  | has x0 x1 =>
    obtain ⟨p, dx, v0, v1, rfl, hp, h0, h1⟩ := hv
    exact .inr (.inr (.inr (.inr (.inr (.inr (.inr (.inr (.inr (.inl (⟨_, hσ, p, dx, _, rfl, hp, rfl, p, dx, v0, v1, rfl, hp, fun p2 H2 n2 => q _ _ n2.same ⟨_, _, rfl, n2.at_, ⟨_, _, rfl, rfl, ⟨_, _, rfl, h0.keep n2.keep, ⟨_, _, rfl, h1.keep n2.keep, rfl⟩⟩⟩⟩⟩))))))))))
  | drop x0 =>
    obtain ⟨p, dx, v0, rfl, hp, h0⟩ := hv
    exact .inr (.inr (.inr (.inr (.inr (.inr (.inr (.inr (.inr (.inr (.inl (⟨_, hσ, p, dx, _, rfl, hp, rfl, p, dx, v0, rfl, hp, fun p2 H2 n2 => q _ _ n2.same ⟨_, _, rfl, n2.at_, ⟨_, _, rfl, rfl, ⟨_, _, rfl, h0.keep n2.keep, rfl⟩⟩⟩⟩)))))))))))
  | lend x0 x1 x2 =>
    obtain ⟨p, dx, v0, v1, v2, rfl, hp, h0, h1, h2⟩ := hv
    exact .inr (.inr (.inr (.inr (.inr (.inr (.inr (.inr (.inr (.inr (.inr (.inl (⟨_, hσ, p, dx, _, rfl, hp, rfl, p, dx, v0, v1, v2, rfl, hp, fun p2 H2 n2 => q _ _ n2.same ⟨_, _, rfl, n2.at_, ⟨_, _, rfl, h0.keep n2.keep, ⟨_, _, rfl, h1.keep n2.keep, ⟨_, _, rfl, h2.keep n2.keep, rfl⟩⟩⟩⟩⟩))))))))))))
  | step x0 x1 =>
    obtain ⟨p, dx, v0, v1, rfl, hp, h0, h1⟩ := hv
    exact .inr (.inr (.inr (.inr (.inr (.inr (.inr (.inr (.inr (.inr (.inr (.inr (.inl (⟨_, hσ, p, dx, _, rfl, hp, rfl, p, dx, v0, v1, rfl, hp, fun p2 H2 n2 => q _ _ n2.same ⟨_, _, rfl, n2.at_, ⟨_, _, rfl, rfl, ⟨_, _, rfl, h0.keep n2.keep, ⟨_, _, rfl, h1.keep n2.keep, rfl⟩⟩⟩⟩⟩)))))))))))))
  | call x0 x1 x2 =>
    obtain ⟨p, dx, v0, v1, v2, rfl, hp, h0, h1, h2⟩ := hv
    exact .inr (.inr (.inr (.inr (.inr (.inr (.inr (.inr (.inr (.inr (.inr (.inr (.inr (.inl (⟨_, hσ, p, dx, _, rfl, hp, rfl, p, dx, v0, v1, v2, rfl, hp, fun p2 H2 n2 => q _ _ n2.same ⟨_, _, rfl, n2.at_, ⟨_, _, rfl, rfl, ⟨_, _, rfl, h0.keep n2.keep, ⟨_, _, rfl, h1.keep n2.keep, ⟨_, _, rfl, h2.keep n2.keep, rfl⟩⟩⟩⟩⟩⟩))))))))))))))
  | back x0 =>
    obtain ⟨p, dx, v0, rfl, hp, h0⟩ := hv
    exact .inr (.inr (.inr (.inr (.inr (.inr (.inr (.inr (.inr (.inr (.inr (.inr (.inr (.inr (.inl (⟨_, hσ, p, dx, _, rfl, hp, rfl, p, dx, v0, rfl, hp, fun p2 H2 n2 => q _ _ n2.same ⟨_, _, rfl, n2.at_, ⟨_, _, rfl, rfl, ⟨_, _, rfl, h0.keep n2.keep, rfl⟩⟩⟩⟩)))))))))))))))
  | ask x0 =>
    obtain ⟨p, dx, v0, rfl, hp, h0⟩ := hv
    exact .inr (.inr (.inr (.inr (.inr (.inr (.inr (.inr (.inr (.inr (.inr (.inr (.inr (.inr (.inr (.inl (⟨_, hσ, p, dx, _, rfl, hp, rfl, p, dx, v0, rfl, hp, fun p2 H2 n2 => q _ _ n2.same ⟨_, _, rfl, n2.at_, ⟨_, _, rfl, rfl, ⟨_, _, rfl, h0.keep n2.keep, rfl⟩⟩⟩⟩))))))))))))))))
  | tell x0 =>
    obtain ⟨p, dx, v0, rfl, hp, h0⟩ := hv
    exact .inr (.inr (.inr (.inr (.inr (.inr (.inr (.inr (.inr (.inr (.inr (.inr (.inr (.inr (.inr (.inr (.inl (⟨_, hσ, p, dx, _, rfl, hp, rfl, p, dx, v0, rfl, hp, fun p2 H2 n2 => q _ _ n2.same ⟨_, _, rfl, n2.at_, ⟨_, _, rfl, rfl, ⟨_, _, rfl, h0.keep n2.keep, rfl⟩⟩⟩⟩)))))))))))))))))

theorem told_IfRow {e : El} {p dx : Addr} {fs : List (Str × V)} (hσ : σ[i]? = some (some (.ref p))) (hp : H p = some (.ins T.a_IfRow dx fs)) (hl : fs.lookup (Str.ofString "told") = none) (h : ElAt T H e (.ref p)) (ok : okE d e) (hk : kindE e = 0) (q : ∀ u H', Same H H' → IsD H' (elD e) u → Q u H') : tTold21 T d i σ H Q :=
  .inr (.inr (.inr (.inr (.inr (.inr (.inr (.inr (.inr (.inr (.inr (.inr (.inr (.inr (.inr (.inr (.inr (.inl (⟨_, hσ, p, dx, fs, rfl, hp, hl, e, .ref p, rfl, h, ok, hk, q⟩))))))))))))))))))
theorem told_WhileRow {e : El} {p dx : Addr} {fs : List (Str × V)} (hσ : σ[i]? = some (some (.ref p))) (hp : H p = some (.ins T.a_WhileRow dx fs)) (hl : fs.lookup (Str.ofString "told") = none) (h : ElAt T H e (.ref p)) (ok : okE d e) (hk : kindE e = 1) (q : ∀ u H', Same H H' → IsD H' (elD e) u → Q u H') : tTold21 T d i σ H Q :=
  .inr (.inr (.inr (.inr (.inr (.inr (.inr (.inr (.inr (.inr (.inr (.inr (.inr (.inr (.inr (.inr (.inr (.inr (.inl (⟨_, hσ, p, dx, fs, rfl, hp, hl, e, .ref p, rfl, h, ok, hk, q⟩)))))))))))))))))))
theorem told_Record {e : El} {p dx : Addr} {fs : List (Str × V)} (hσ : σ[i]? = some (some (.ref p))) (hp : H p = some (.ins T.a_Record dx fs)) (hl : fs.lookup (Str.ofString "told") = none) (h : ElAt T H e (.ref p)) (ok : okE d e) (hk : kindE e = 2) (q : ∀ u H', Same H H' → IsD H' (elD e) u → Q u H') : tTold21 T d i σ H Q :=
  .inr (.inr (.inr (.inr (.inr (.inr (.inr (.inr (.inr (.inr (.inr (.inr (.inr (.inr (.inr (.inr (.inr (.inr (.inr (.inl (⟨_, hσ, p, dx, fs, rfl, hp, hl, e, .ref p, rfl, h, ok, hk, q⟩))))))))))))))))))))
theorem told_Helper {e : El} {p dx : Addr} {fs : List (Str × V)} (hσ : σ[i]? = some (some (.ref p))) (hp : H p = some (.ins T.a_Helper dx fs)) (hl : fs.lookup (Str.ofString "told") = none) (h : ElAt T H e (.ref p)) (ok : okE d e) (hk : kindE e = 3) (q : ∀ u H', Same H H' → IsD H' (elD e) u → Q u H') : tTold21 T d i σ H Q :=
  .inr (.inr (.inr (.inr (.inr (.inr (.inr (.inr (.inr (.inr (.inr (.inr (.inr (.inr (.inr (.inr (.inr (.inr (.inr (.inr (⟨_, hσ, p, dx, fs, rfl, hp, hl, e, .ref p, rfl, h, ok, hk, q⟩))))))))))))))))))))
theorem told_el {e : El} (hσ : σ[i]? = some (some v)) (h : ElAt T H e v) (ok : okE d e) (q : ∀ u H', Same H H' → IsD H' (elD e) u → Q u H') : tTold21 T d i σ H Q := by
  cases e with
  | row r => exact told_row hσ h q
  | iff a rs os =>
    have h0 := h
    obtain ⟨p, dx, q1, q2, v0, us1, us2, rfl, hp, _⟩ := h
    exact told_IfRow hσ hp rfl h0 ok rfl q
  | whl a rs =>
    have h0 := h
    obtain ⟨p, dx, q1, v0, us1, rfl, hp, _⟩ := h
    exact told_WhileRow hσ hp rfl h0 ok rfl q
  | rcd n fs =>
    have h0 := h
    obtain ⟨p, dx, v1, rfl, hp, _⟩ := h
    exact told_Record hσ hp rfl h0 ok rfl q
  | hel n ps g rs =>
    have h0 := h
    obtain ⟨p, dx, q1, v1, v2, us1, rfl, hp, _⟩ := h
    exact told_Helper hσ hp rfl h0 ok rfl q
end
/-! ### what all tell -/
section
variable {P : Program} {w : World} {K : PySem.W.Frag} {mg : Str → Option Value} {base : Heap}
theorem ok_all_toldI {j d : Nat} (T : Tx K mg) (tI : FnOk P w K mg base CX0 (j + 1) T.f_IfRow_told T.d_IfRow_told ["self"] (spTold T d 0)) (tW : FnOk P w K mg base CX0 (j + 1) T.f_WhileRow_told T.d_WhileRow_told ["self"] (spTold T d 1))
    (tR : FnOk P w K mg base CX0 (j + 1) T.f_Record_told T.d_Record_told ["self"] (spTold T d 2)) (tH : FnOk P w K mg base CX0 (j + 1) T.f_Helper_told T.d_Helper_told ["self"] (spTold T d 3)) : FnOk P w K mg base CX0 (j + 2) T.f_all_told T.d_all_told ["rows"] (spAll T d) := by
  refine T.F_all_told.ok sc_all_told (fun vs H Q E h => ?_) (fun cdv A outer s H vs Q E hr h => ?_)
  · obtain ⟨p, us, es, rfl, _⟩ := h
    rfl
  · obtain ⟨p, us, es, rfl, hp, hus, hl, hok, q⟩ := h
    refine ⟨_, (pss_one (ps_ret (pe_callTy (tuple_ofK (K := K) rfl) (by rfl) T.n_tuple PyProof.Rows.boot_tuple (pa_cons (pe_lc (own := [("row", 1)]) (g := gName 1) (tt := tYes) rfl sc_all_told.nd (pi_tupK (K := K) rfl (pv 0)) (blkOk_by (own := [("row", 1)]) (N := ["rows", "row"]) (sc := defScope s_all_told) (by decide +kernel)) (fun _ _ _ _ _ => pg_name (i := 1) sc_all_told.nd rfl (Or.inl rfl)) (fun _ _ _ _ _ => pts_nil) (fun _ _ _ _ _ => (peAlt (pe_meth0 (pv 1) T.cl_SetRow T.M_SetRow_told (ok_SetRow_told T) (hr.mono (by omega)) T.B_SetRow_told .nil pass0) (peAlt (pe_meth0 (pv 1) T.cl_MakeRow T.M_MakeRow_told (ok_MakeRow_told T) (hr.mono (by omega)) T.B_MakeRow_told .nil pass0) (peAlt (pe_meth0 (pv 1) T.cl_NoneRow T.M_NoneRow_told (ok_NoneRow_told T) (hr.mono (by omega)) T.B_NoneRow_told .nil pass0) (peAlt (pe_meth0 (pv 1) T.cl_GiveRow T.M_GiveRow_told (ok_GiveRow_told T) (hr.mono (by omega)) T.B_GiveRow_told .nil pass0) (peAlt (pe_meth0 (pv 1) T.cl_TakeRow T.M_TakeRow_told (ok_TakeRow_told T) (hr.mono (by omega)) T.B_TakeRow_told .nil pass0) (peAlt (pe_meth0 (pv 1) T.cl_FillRow T.M_FillRow_told (ok_FillRow_told T) (hr.mono (by omega)) T.B_FillRow_told .nil pass0) (peAlt (pe_meth0 (pv 1) T.cl_SwapRow T.M_SwapRow_told (ok_SwapRow_told T) (hr.mono (by omega)) T.B_SwapRow_told .nil pass0) (peAlt (pe_meth0 (pv 1) T.cl_GetRow T.M_GetRow_told (ok_GetRow_told T) (hr.mono (by omega)) T.B_GetRow_told .nil pass0) (peAlt (pe_meth0 (pv 1) T.cl_PutRow T.M_PutRow_told (ok_PutRow_told T) (hr.mono (by omega)) T.B_PutRow_told .nil pass0) (peAlt (pe_meth0 (pv 1) T.cl_HasRow T.M_HasRow_told (ok_HasRow_told T) (hr.mono (by omega)) T.B_HasRow_told .nil pass0) (peAlt (pe_meth0 (pv 1) T.cl_DropRow T.M_DropRow_told (ok_DropRow_told T) (hr.mono (by omega)) T.B_DropRow_told .nil pass0) (peAlt (pe_meth0 (pv 1) T.cl_LendRow T.M_LendRow_told (ok_LendRow_told T) (hr.mono (by omega)) T.B_LendRow_told .nil pass0) (peAlt (pe_meth0 (pv 1) T.cl_StepRow T.M_StepRow_told (ok_StepRow_told T) (hr.mono (by omega)) T.B_StepRow_told .nil pass0) (peAlt (pe_meth0 (pv 1) T.cl_CallRow T.M_CallRow_told (ok_CallRow_told T) (hr.mono (by omega)) T.B_CallRow_told .nil pass0) (peAlt (pe_meth0 (pv 1) T.cl_BackRow T.M_BackRow_told (ok_BackRow_told T) (hr.mono (by omega)) T.B_BackRow_told .nil pass0) (peAlt (pe_meth0 (pv 1) T.cl_AskRow T.M_AskRow_told (ok_AskRow_told T) (hr.mono (by omega)) T.B_AskRow_told .nil pass0) (peAlt (pe_meth0 (pv 1) T.cl_TellRow T.M_TellRow_told (ok_TellRow_told T) (hr.mono (by omega)) T.B_TellRow_told .nil pass0) (peAlt (pe_meth0 (pv 1) T.cl_IfRow T.M_IfRow_told tI (hr.mono (by omega)) T.B_IfRow_told .nil pass0) (peAlt (pe_meth0 (pv 1) T.cl_WhileRow T.M_WhileRow_told tW (hr.mono (by omega)) T.B_WhileRow_told .nil pass0) (peAlt (pe_meth0 (pv 1) T.cl_Record T.M_Record_told tR (hr.mono (by omega)) T.B_Record_told .nil pass0) (pe_meth0 (pv 1) T.cl_Helper T.M_Helper_told tH (hr.mono (by omega)) T.B_Helper_told .nil pass0))))))))))))))))))))))) pa_nil)))), ?_⟩
    have hul := hus.len
    walk_at "sy"
    refine k_lcT us (fun D i Hy => Same H Hy ∧ ∃ ws, Hy D = some (.lst ws) ∧ IsDs Hy (elDs (es.take i)) ws ∧ ws.length = i) (fun D Hy n => ⟨n.same, [], n.at_, rfl, rfl⟩) (fun D i Hy _ h => SqT.of (h.1 _ _ hp)) ?_ ?_
    · rintro D hD i x Hy hx ⟨sy, ws, hDy, hws, hwl⟩
      obtain ⟨e, he1, hel⟩ := hus.at hx
      have hi := (List.getElem?_eq_some_iff.mp hx).1
      have hwl2 : ws.length ≤ 1000 := by omega
      walk_at "sy"
      refine told_el (i := 1) (d := d) rfl (hel.keep (Keep.of sy)) (hok e (List.mem_of_getElem? he1)) (fun u H2 s2 hu => ?_)
      have hD2 := s2 _ _ hDy
      walk_at "sy"
      rename_i H4 c4
      refine ⟨c4.sameOwn (sy.trans s2) hD, ws ++ [u], c4.at_, ?_, by simp [hwl]⟩
      rw [take_snoc he1, elDs_snoc]
      exact IsDs.snoc (hu.keep c4.keepL) ((hws.keep (Keep.of s2)).keep c4.keepL)
    · rintro D hD Hy ⟨sy, ws, hDy, hws, hwl⟩
      rw [hul, List.take_length] at hws
      walk_at "sy"
      rename_i t z H3 n3
      exact q _ _ _ (sy.trans n3.same) n3.at_ (hws.keep n3.keep)
theorem ok_told_Record0 (T : Tx K mg) (d : Nat) : FnOk P w K mg base CX0 1 T.f_Record_told T.d_Record_told ["self"] (spTold T d 2) := by
  refine T.F_Record_told.ok sc_Record_told (fun vs H Q E h => ?_) (fun cdv A outer s H vs Q E hr h => ?_)
  · obtain ⟨e, v, rfl, _⟩ := h
    rfl
  · obtain ⟨e, v, rfl, h, ok, hk, q⟩ := h
    refine ⟨_, (pss_one (ps_ret (pe_tup (pa_cons pe_str (pa_cons (fldK (K := K) rfl (pv 0) rfl) (pa_cons (fldK (K := K) rfl (pv 0) rfl) pa_nil)))))), ?_⟩
    have ccl := T.cl_Record
    have na0 := T.na_Record_name
    have na1 := T.na_Record_fields
    cases e with
    | rcd n fs =>
      obtain ⟨p, dx, v1, rfl, hp, h1⟩ := h
      walk_at "sy"
      rename_i r H2 n2
      exact q _ _ n2.same ⟨_, _, rfl, n2.at_, _, _, rfl, rfl, _, _, rfl, rfl, _, _, rfl, h1.keep n2.keep, rfl⟩
    | _ => cases hk
theorem ok_told_IfRowI {j d : Nat} (T : Tx K mg) (al : FnOk P w K mg base CX0 (j + 1) T.f_all_told T.d_all_told ["rows"] (spAll T d)) : FnOk P w K mg base CX0 (j + 2) T.f_IfRow_told T.d_IfRow_told ["self"] (spTold T (d + 1) 0) := by
  refine T.F_IfRow_told.ok sc_IfRow_told (fun vs H Q E h => ?_) (fun cdv A outer s H vs Q E hr h => ?_)
  · obtain ⟨e, v, rfl, _⟩ := h
    rfl
  · obtain ⟨e, v, rfl, h, ok, hk, q⟩ := h
    refine ⟨_, (pss_one (ps_ret (pe_tup (pa_cons pe_str (pa_cons (fldK (K := K) rfl (pv 0) rfl) (pa_cons (pe_call al (hr.mono (by omega)) rfl T.m_all_told T.F_all_told.kp T.B_all_told .nil pass0 (pa_cons (fldK (K := K) rfl (pv 0) rfl) pa_nil)) (pa_cons (pe_call al (hr.mono (by omega)) rfl T.m_all_told T.F_all_told.kp T.B_all_told .nil pass0 (pa_cons (fldK (K := K) rfl (pv 0) rfl) pa_nil)) pa_nil))))))), ?_⟩
    have ccl := T.cl_IfRow
    have na0 := T.na_IfRow_atom
    have na1 := T.na_IfRow_rows
    have na2 := T.na_IfRow_others
    cases e with
    | iff a rs os =>
      obtain ⟨p, dx, q1, q2, v0, us1, us2, rfl, hp, h0, hq1, g1, hq2, g2⟩ := h
      obtain ⟨l1, l2, k1, k2⟩ := ok
      walk_at "sy"
      refine ⟨q1, us1, rs, rfl, hq1, g1, l1, k1, fun H2 r2 ws2 s2 hr2 hw2 => ?_⟩
      have hp2 := s2 _ _ hp
      walk_at "sy"
      refine ⟨q2, us2, os, rfl, s2 _ _ hq2, g2.keep (Keep.of s2), l2, k2, fun H3 r3 ws3 s3 hr3 hw3 => ?_⟩
      walk_at "sy"
      rename_i r H4 n4
      have s24 := s3.trans n4.same
      exact q _ _ (s2.trans s24) ⟨_, _, rfl, n4.at_, _, _, rfl, rfl, _, _, rfl, h0.keep (Keep.of (s2.trans s24)), _, _, rfl, ⟨r2, ws2, rfl, s24 _ _ hr2, hw2.keep (Keep.of s24)⟩, _, _, rfl, ⟨r3, ws3, rfl, n4.get hr3, hw3.keep n4.keep⟩, rfl⟩
    | _ => cases hk
theorem ok_told_WhileRowI {j d : Nat} (T : Tx K mg) (al : FnOk P w K mg base CX0 (j + 1) T.f_all_told T.d_all_told ["rows"] (spAll T d)) : FnOk P w K mg base CX0 (j + 2) T.f_WhileRow_told T.d_WhileRow_told ["self"] (spTold T (d + 1) 1) := by
  refine T.F_WhileRow_told.ok sc_WhileRow_told (fun vs H Q E h => ?_) (fun cdv A outer s H vs Q E hr h => ?_)
  · obtain ⟨e, v, rfl, _⟩ := h
    rfl
  · obtain ⟨e, v, rfl, h, ok, hk, q⟩ := h
    refine ⟨_, (pss_one (ps_ret (pe_tup (pa_cons pe_str (pa_cons (fldK (K := K) rfl (pv 0) rfl) (pa_cons (pe_call al (hr.mono (by omega)) rfl T.m_all_told T.F_all_told.kp T.B_all_told .nil pass0 (pa_cons (fldK (K := K) rfl (pv 0) rfl) pa_nil)) pa_nil)))))), ?_⟩
    have ccl := T.cl_WhileRow
    have na0 := T.na_WhileRow_atom
    have na1 := T.na_WhileRow_rows
    cases e with
    | whl a rs =>
      obtain ⟨p, dx, q1, v0, us1, rfl, hp, h0, hq1, g1⟩ := h
      obtain ⟨l1, k1⟩ := ok
      walk_at "sy"
      refine ⟨q1, us1, rs, rfl, hq1, g1, l1, k1, fun H2 r2 ws2 s2 hr2 hw2 => ?_⟩
      walk_at "sy"
      rename_i r H4 n4
      exact q _ _ (s2.trans n4.same) ⟨_, _, rfl, n4.at_, _, _, rfl, rfl, _, _, rfl, h0.keep (Keep.of (s2.trans n4.same)), _, _, rfl, ⟨r2, ws2, rfl, n4.get hr2, hw2.keep n4.keep⟩, rfl⟩
    | _ => cases hk
theorem ok_told_HelperI {j d : Nat} (T : Tx K mg) (al : FnOk P w K mg base CX0 (j + 1) T.f_all_told T.d_all_told ["rows"] (spAll T d)) : FnOk P w K mg base CX0 (j + 2) T.f_Helper_told T.d_Helper_told ["self"] (spTold T (d + 1) 3) := by
  refine T.F_Helper_told.ok sc_Helper_told (fun vs H Q E h => ?_) (fun cdv A outer s H vs Q E hr h => ?_)
  · obtain ⟨e, v, rfl, _⟩ := h
    rfl
  · obtain ⟨e, v, rfl, h, ok, hk, q⟩ := h
    refine ⟨_, (pss_one (ps_ret (pe_tup (pa_cons pe_str (pa_cons (fldK (K := K) rfl (pv 0) rfl) (pa_cons (fldK (K := K) rfl (pv 0) rfl) (pa_cons (fldK (K := K) rfl (pv 0) rfl) (pa_cons (pe_call al (hr.mono (by omega)) rfl T.m_all_told T.F_all_told.kp T.B_all_told .nil pass0 (pa_cons (fldK (K := K) rfl (pv 0) rfl) pa_nil)) pa_nil)))))))), ?_⟩
    have ccl := T.cl_Helper
    have na0 := T.na_Helper_name
    have na1 := T.na_Helper_params
    have na2 := T.na_Helper_gives
    have na3 := T.na_Helper_rows
    cases e with
    | hel n ps g rs =>
      obtain ⟨p, dx, q1, v1, v2, us1, rfl, hp, h1, h2, hq1, g1⟩ := h
      obtain ⟨l1, k1⟩ := ok
      walk_at "sy"
      refine ⟨q1, us1, rs, rfl, hq1, g1, l1, k1, fun H2 r2 ws2 s2 hr2 hw2 => ?_⟩
      walk_at "sy"
      rename_i r H4 n4
      have s4 := s2.trans n4.same
      exact q _ _ s4 ⟨_, _, rfl, n4.at_, _, _, rfl, rfl, _, _, rfl, rfl, _, _, rfl, h1.keep (Keep.of s4), _, _, rfl, h2.keep (Keep.of s4), _, _, rfl, ⟨r2, ws2, rfl, n4.get hr2, hw2.keep n4.keep⟩, rfl⟩
    | _ => cases hk
theorem ok_told_IfRowN (T : Tx K mg) : FnOk P w K mg base CX0 1 T.f_IfRow_told T.d_IfRow_told ["self"] (spTold T 0 0) :=
  T.F_IfRow_told.ok sc_IfRow_told (fun vs H Q E ⟨e, v, _, _, ok, hk, _⟩ => by cases e <;> first | exact False.elim ok | (cases hk; done)) (fun cdv A outer s H vs Q E hr ⟨e, v, _, _, ok, hk, _⟩ => by cases e <;> first | exact False.elim ok | (cases hk; done))
theorem ok_told_WhileRowN (T : Tx K mg) : FnOk P w K mg base CX0 1 T.f_WhileRow_told T.d_WhileRow_told ["self"] (spTold T 0 1) :=
  T.F_WhileRow_told.ok sc_WhileRow_told (fun vs H Q E ⟨e, v, _, _, ok, hk, _⟩ => by cases e <;> first | exact False.elim ok | (cases hk; done)) (fun cdv A outer s H vs Q E hr ⟨e, v, _, _, ok, hk, _⟩ => by cases e <;> first | exact False.elim ok | (cases hk; done))
theorem ok_told_HelperN (T : Tx K mg) : FnOk P w K mg base CX0 1 T.f_Helper_told T.d_Helper_told ["self"] (spTold T 0 3) :=
  T.F_Helper_told.ok sc_Helper_told (fun vs H Q E ⟨e, v, _, _, ok, hk, _⟩ => by cases e <;> first | exact False.elim ok | (cases hk; done)) (fun cdv A outer s H vs Q E hr ⟨e, v, _, _, ok, hk, _⟩ => by cases e <;> first | exact False.elim ok | (cases hk; done))
theorem FnOk_lift {j k : Nat} {f : Addr} {fd : FuncData} {ps : List Str} {sp : Sp} (F : FnOk P w K mg base CX0 j f fd ps sp) (h : j ≤ k) : FnOk P w K mg base CX0 k f fd ps sp :=
  ⟨F.len, fun A outer s H args us vs Q E hr he hb hv hs => F.run A outer s H args us vs Q E (hr.mono h) he hb hv hs⟩
theorem ok_all_told (T : Tx K mg) : ∀ d : Nat, FnOk P w K mg base CX0 (2 * d + 2) T.f_all_told T.d_all_told ["rows"] (spAll T d)
  | 0 => ok_all_toldI (j := 0) T (ok_told_IfRowN T) (ok_told_WhileRowN T) (ok_told_Record0 T 0) (ok_told_HelperN T)
  | d + 1 => ok_all_toldI (j := 2 * d + 2) T (ok_told_IfRowI (j := 2 * d + 1) T (ok_all_told T d)) (ok_told_WhileRowI (j := 2 * d + 1) T (ok_all_told T d)) (FnOk_lift (ok_told_Record0 T (d + 1)) (by omega)) (ok_told_HelperI (j := 2 * d + 1) T (ok_all_told T d))
theorem ok_told_IfRow (T : Tx K mg) (d : Nat) : FnOk P w K mg base CX0 (2 * d + 3) T.f_IfRow_told T.d_IfRow_told ["self"] (spTold T (d + 1) 0) := ok_told_IfRowI (j := 2 * d + 1) T (ok_all_told T d)
theorem ok_told_WhileRow (T : Tx K mg) (d : Nat) : FnOk P w K mg base CX0 (2 * d + 3) T.f_WhileRow_told T.d_WhileRow_told ["self"] (spTold T (d + 1) 1) := ok_told_WhileRowI (j := 2 * d + 1) T (ok_all_told T d)
theorem ok_told_Helper (T : Tx K mg) (d : Nat) : FnOk P w K mg base CX0 (2 * d + 3) T.f_Helper_told T.d_Helper_told ["self"] (spTold T (d + 1) 3) := ok_told_HelperI (j := 2 * d + 1) T (ok_all_told T d)
theorem ok_told_Record (T : Tx K mg) (d : Nat) : FnOk P w K mg base CX0 1 T.f_Record_told T.d_Record_told ["self"] (spTold T (d + 1) 2) := ok_told_Record0 T (d + 1)
end
section
variable {P : Program} {w : World} {K : PySem.W.Frag} {mg : Str → Option Value} {base : Heap}
theorem ok_l_box_row (T : Tx K mg) : FnOk P w K mg base CX0 3 T.f_l_box_row T.d_l_box_row ["_law_told"] (spRow T isBox) := by
  refine T.F_l_box_row.ok sc_l_box_row (fun vs H Q E h => ?_) (fun cdv A outer s H vs Q E hr h => ?_)
  · obtain ⟨v, r, rfl, _⟩ := h
    rfl
  · obtain ⟨v, r, rfl, hv, hb, q⟩ := h
    refine ⟨_, (pss_cons (ps_set (i := 1) sc_l_box_row.nd rfl (Or.inl rfl) (pe_ix (ix_tupK (K := K) rfl) (pv 0) pe_int (fun _ _ => rfl)))
      (pss_cons (ps_if (pt_cmpR op_eq (pv 1) pe_str (nomark _))
        (pss_one (ps_ret (pe_make T.Mk_MakeRow (ok_MakeRow_init T) (hr.mono (by omega)) rfl T.c_MakeRow T.B_MakeRow_init .nil pass0 (pa_cons (pe_ix (ix_tupK (K := K) rfl) (pv 0) pe_int (fun _ _ => rfl)) (pa_cons (pe_ix (ix_tupK (K := K) rfl) (pv 0) pe_int (fun _ _ => rfl)) (pa_cons (pe_ix (ix_tupK (K := K) rfl) (pv 0) pe_int (fun _ _ => rfl)) pa_nil))))))
        pss_nil)
      (pss_cons (ps_if (pt_cmpR op_eq (pv 1) pe_str (nomark _))
        (pss_one (ps_ret (pe_make T.Mk_NoneRow (ok_NoneRow_init T) (hr.mono (by omega)) rfl T.c_NoneRow T.B_NoneRow_init .nil pass0 (pa_cons (pe_ix (ix_tupK (K := K) rfl) (pv 0) pe_int (fun _ _ => rfl)) (pa_cons (pe_ix (ix_tupK (K := K) rfl) (pv 0) pe_int (fun _ _ => rfl)) pa_nil)))))
        pss_nil)
      (pss_cons (ps_if (pt_cmpR op_eq (pv 1) pe_str (nomark _))
        (pss_one (ps_ret (pe_make T.Mk_GiveRow (ok_GiveRow_init T) (hr.mono (by omega)) rfl T.c_GiveRow T.B_GiveRow_init .nil pass0 (pa_cons (pe_ix (ix_tupK (K := K) rfl) (pv 0) pe_int (fun _ _ => rfl)) (pa_cons (pe_ix (ix_tupK (K := K) rfl) (pv 0) pe_int (fun _ _ => rfl)) pa_nil)))))
        pss_nil)
      (pss_cons (ps_if (pt_cmpR op_eq (pv 1) pe_str (nomark _))
        (pss_one (ps_ret (pe_make T.Mk_TakeRow (ok_TakeRow_init T) (hr.mono (by omega)) rfl T.c_TakeRow T.B_TakeRow_init .nil pass0 (pa_cons (pe_ix (ix_tupK (K := K) rfl) (pv 0) pe_int (fun _ _ => rfl)) (pa_cons (pe_ix (ix_tupK (K := K) rfl) (pv 0) pe_int (fun _ _ => rfl)) pa_nil)))))
        pss_nil)
      (pss_cons (ps_if (pt_cmpR op_eq (pv 1) pe_str (nomark _))
        (pss_one (ps_ret (pe_make T.Mk_FillRow (ok_FillRow_init T) (hr.mono (by omega)) rfl T.c_FillRow T.B_FillRow_init .nil pass0 (pa_cons (pe_ix (ix_tupK (K := K) rfl) (pv 0) pe_int (fun _ _ => rfl)) (pa_cons (pe_ix (ix_tupK (K := K) rfl) (pv 0) pe_int (fun _ _ => rfl)) pa_nil)))))
        pss_nil)
      (pss_cons (ps_if (pt_cmpR op_eq (pv 1) pe_str (nomark _))
        (pss_one (ps_ret (pe_make T.Mk_SwapRow (ok_SwapRow_init T) (hr.mono (by omega)) rfl T.c_SwapRow T.B_SwapRow_init .nil pass0 (pa_cons (pe_ix (ix_tupK (K := K) rfl) (pv 0) pe_int (fun _ _ => rfl)) (pa_cons (pe_ix (ix_tupK (K := K) rfl) (pv 0) pe_int (fun _ _ => rfl)) pa_nil)))))
        pss_nil)
      (pss_cons (ps_if (pt_cmpR op_eq (pv 1) pe_str (nomark _))
        (pss_one (ps_ret (pe_make T.Mk_GetRow (ok_GetRow_init T) (hr.mono (by omega)) rfl T.c_GetRow T.B_GetRow_init .nil pass0 (pa_cons (pe_ix (ix_tupK (K := K) rfl) (pv 0) pe_int (fun _ _ => rfl)) (pa_cons (pe_ix (ix_tupK (K := K) rfl) (pv 0) pe_int (fun _ _ => rfl)) pa_nil)))))
        pss_nil)
      (pss_cons (ps_if (pt_cmpR op_eq (pv 1) pe_str (nomark _))
        (pss_one (ps_ret (pe_make T.Mk_PutRow (ok_PutRow_init T) (hr.mono (by omega)) rfl T.c_PutRow T.B_PutRow_init .nil pass0 (pa_cons (pe_ix (ix_tupK (K := K) rfl) (pv 0) pe_int (fun _ _ => rfl)) (pa_cons (pe_ix (ix_tupK (K := K) rfl) (pv 0) pe_int (fun _ _ => rfl)) pa_nil)))))
        pss_nil)
      (pss_cons (ps_if (pt_cmpR op_eq (pv 1) pe_str (nomark _))
        (pss_one (ps_ret (pe_make T.Mk_HasRow (ok_HasRow_init T) (hr.mono (by omega)) rfl T.c_HasRow T.B_HasRow_init .nil pass0 (pa_cons (pe_ix (ix_tupK (K := K) rfl) (pv 0) pe_int (fun _ _ => rfl)) (pa_cons (pe_ix (ix_tupK (K := K) rfl) (pv 0) pe_int (fun _ _ => rfl)) pa_nil)))))
        pss_nil)
      (pss_one (ps_ret (pe_make T.Mk_DropRow (ok_DropRow_init T) (hr.mono (by omega)) rfl T.c_DropRow T.B_DropRow_init .nil pass0 (pa_cons (pe_ix (ix_tupK (K := K) rfl) (pv 0) pe_int (fun _ _ => rfl)) pa_nil)))))))))))))), ?_⟩
    have hv0 := hv
    cases r with
    | set x0 x1 x2 x3 =>
      cases hb
    | make x0 x1 x2 =>
      obtain ⟨p, vs, rfl, hp, hvs⟩ := hv
      obtain ⟨_, _, rfl, hw, hvs⟩ := hvs
      obtain rfl : _ = V.str "make" := hw
      obtain ⟨v0, _, rfl, h0, hvs⟩ := hvs
      obtain rfl : v0 = _ := h0
      obtain ⟨v1, _, rfl, h1, hvs⟩ := hvs
      obtain rfl : v1 = _ := h1
      obtain ⟨v2, _, rfl, h2, hvs⟩ := hvs
      obtain ⟨qa, ua, rfl, hqa, hua⟩ := h2
      obtain rfl : _ = _ := hvs
      walk_at "sy"
      exact q _ _ (by walk_at "sm") ⟨_, _, _, _, _, rfl, by walk_at "look", rfl, rfl, ⟨qa, ua, rfl, by walk_at "look", hua.keep (by walk_at "kp")⟩⟩
    | non x0 x1 =>
      obtain ⟨p, vs, rfl, hp, hvs⟩ := hv
      obtain ⟨_, _, rfl, hw, hvs⟩ := hvs
      obtain rfl : _ = V.str "none" := hw
      obtain ⟨v0, _, rfl, h0, hvs⟩ := hvs
      obtain rfl : v0 = _ := h0
      obtain ⟨v1, _, rfl, h1, hvs⟩ := hvs
      obtain rfl : v1 = _ := h1
      obtain rfl : _ = _ := hvs
      walk_at "sy"
      exact q _ _ (by walk_at "sm") ⟨_, _, _, _, rfl, by walk_at "look", rfl, rfl⟩
    | give x0 x1 =>
      obtain ⟨p, vs, rfl, hp, hvs⟩ := hv
      obtain ⟨_, _, rfl, hw, hvs⟩ := hvs
      obtain rfl : _ = V.str "give" := hw
      obtain ⟨v0, _, rfl, h0, hvs⟩ := hvs
      obtain rfl : v0 = _ := h0
      obtain ⟨v1, _, rfl, h1, hvs⟩ := hvs
      obtain rfl : v1 = _ := h1
      obtain rfl : _ = _ := hvs
      walk_at "sy"
      exact q _ _ (by walk_at "sm") ⟨_, _, _, _, rfl, by walk_at "look", rfl, rfl⟩
    | take x0 x1 =>
      obtain ⟨p, vs, rfl, hp, hvs⟩ := hv
      obtain ⟨_, _, rfl, hw, hvs⟩ := hvs
      obtain rfl : _ = V.str "take" := hw
      obtain ⟨v0, _, rfl, h0, hvs⟩ := hvs
      obtain rfl : v0 = _ := h0
      obtain ⟨v1, _, rfl, h1, hvs⟩ := hvs
      obtain rfl : _ = _ := hvs
      walk_at "sy"
      exact q _ _ (by walk_at "sm") ⟨_, _, _, _, rfl, by walk_at "look", rfl, h1.keep (by walk_at "kp")⟩
    | fill x0 x1 =>
      obtain ⟨p, vs, rfl, hp, hvs⟩ := hv
      obtain ⟨_, _, rfl, hw, hvs⟩ := hvs
      obtain rfl : _ = V.str "fill" := hw
      obtain ⟨v0, _, rfl, h0, hvs⟩ := hvs
      obtain ⟨v1, _, rfl, h1, hvs⟩ := hvs
      obtain rfl : v1 = _ := h1
      obtain rfl : _ = _ := hvs
      walk_at "sy"
      exact q _ _ (by walk_at "sm") ⟨_, _, _, _, rfl, by walk_at "look", h0.keep (by walk_at "kp"), rfl⟩
    | swap x0 x1 =>
      obtain ⟨p, vs, rfl, hp, hvs⟩ := hv
      obtain ⟨_, _, rfl, hw, hvs⟩ := hvs
      obtain rfl : _ = V.str "swap" := hw
      obtain ⟨v0, _, rfl, h0, hvs⟩ := hvs
      obtain rfl : v0 = _ := h0
      obtain ⟨v1, _, rfl, h1, hvs⟩ := hvs
      obtain rfl : _ = _ := hvs
      walk_at "sy"
      exact q _ _ (by walk_at "sm") ⟨_, _, _, _, rfl, by walk_at "look", rfl, h1.keep (by walk_at "kp")⟩
    | get x0 x1 =>
      obtain ⟨p, vs, rfl, hp, hvs⟩ := hv
      obtain ⟨_, _, rfl, hw, hvs⟩ := hvs
      obtain rfl : _ = V.str "get" := hw
      obtain ⟨v0, _, rfl, h0, hvs⟩ := hvs
      obtain rfl : v0 = _ := h0
      obtain ⟨v1, _, rfl, h1, hvs⟩ := hvs
      obtain rfl : _ = _ := hvs
      walk_at "sy"
      exact q _ _ (by walk_at "sm") ⟨_, _, _, _, rfl, by walk_at "look", rfl, h1.keep (by walk_at "kp")⟩
    | put x0 x1 =>
      obtain ⟨p, vs, rfl, hp, hvs⟩ := hv
      obtain ⟨_, _, rfl, hw, hvs⟩ := hvs
      obtain rfl : _ = V.str "put" := hw
      obtain ⟨v0, _, rfl, h0, hvs⟩ := hvs
      obtain ⟨v1, _, rfl, h1, hvs⟩ := hvs
      obtain rfl : _ = _ := hvs
      walk_at "sy"
      exact q _ _ (by walk_at "sm") ⟨_, _, _, _, rfl, by walk_at "look", h0.keep (by walk_at "kp"), h1.keep (by walk_at "kp")⟩
    | has x0 x1 =>
      obtain ⟨p, vs, rfl, hp, hvs⟩ := hv
      obtain ⟨_, _, rfl, hw, hvs⟩ := hvs
      obtain rfl : _ = V.str "has" := hw
      obtain ⟨v0, _, rfl, h0, hvs⟩ := hvs
      obtain rfl : v0 = _ := h0
      obtain ⟨v1, _, rfl, h1, hvs⟩ := hvs
      obtain rfl : _ = _ := hvs
      walk_at "sy"
      exact q _ _ (by walk_at "sm") ⟨_, _, _, _, rfl, by walk_at "look", rfl, h1.keep (by walk_at "kp")⟩
    | drop x0 =>
      obtain ⟨p, vs, rfl, hp, hvs⟩ := hv
      obtain ⟨_, _, rfl, hw, hvs⟩ := hvs
      obtain rfl : _ = V.str "drop" := hw
      obtain ⟨v0, _, rfl, h0, hvs⟩ := hvs
      obtain rfl : v0 = _ := h0
      obtain rfl : _ = _ := hvs
      walk_at "sy"
      exact q _ _ (by walk_at "sm") ⟨_, _, _, rfl, by walk_at "look", rfl⟩
    | lend x0 x1 x2 =>
      cases hb
    | step x0 x1 =>
      cases hb
    | call x0 x1 x2 =>
      cases hb
    | back x0 =>
      cases hb
    | ask x0 =>
      cases hb
    | tell x0 =>
      cases hb
end
section
variable {P : Program} {w : World} {K : PySem.W.Frag} {mg : Str → Option Value} {base : Heap}
theorem ok_l_made0 {j : Nat} {spI : Sp} (T : Tx K mg) (ih : FnOk P w K mg base CX0 j T.f_l_made T.d_l_made ["_law_told"] spI) : FnOk P w K mg base CX0 (j + 5) T.f_l_made T.d_l_made ["_law_told"] (spRow T (fun r => !isBox r)) := by
  refine T.F_l_made.ok sc_l_made (fun vs H Q E h => ?_) (fun cdv A outer s H vs Q E hr h => ?_)
  · obtain ⟨v, r, rfl, _⟩ := h
    rfl
  · obtain ⟨v, r, rfl, hv, hb, q⟩ := h
    refine ⟨_, (pss_cons (ps_set (i := 1) sc_l_made.nd rfl (Or.inl rfl) (pe_ix (ix_tupK (K := K) rfl) (pv 0) pe_int (fun _ _ => rfl)))
      (pss_cons (ps_if (pt_cmpR op_eq (pv 1) pe_str (nomark _))
        (pss_one (ps_ret (pe_make T.Mk_IfRow (ok_IfRow_init T) (hr.mono (by omega)) rfl T.c_IfRow T.B_IfRow_init .nil pass0 (pa_cons (pe_ix (ix_tupK (K := K) rfl) (pv 0) pe_int (fun _ _ => rfl)) (pa_cons (pe_callTy (tuple_ofK (K := K) rfl) (by rfl) T.n_tuple PyProof.Rows.boot_tuple (pa_cons (pe_lc (own := [("_law_one", 2)]) (g := gName 2) (tt := tYes) rfl sc_l_made.nd (pi_tupK (K := K) rfl (pe_ix (ix_tupK (K := K) rfl) (pv 0) pe_int (fun _ _ => rfl))) (blkOk_by (own := [("_law_one", 2)]) (N := ["_law_told", "_law_word_here", "_law_one"]) (sc := defScope s_l_made) (by decide +kernel)) (fun _ _ _ _ _ => pg_name (i := 2) sc_l_made.nd rfl (Or.inl rfl)) (fun _ _ _ _ _ => pts_nil) (fun _ _ _ _ _ => (pe_call ih (hr.mono (by omega)) rfl T.m_l_made T.F_l_made.kp T.B_l_made .nil pass0 (pa_cons (pv 2) pa_nil)))) pa_nil)) (pa_cons (pe_callTy (tuple_ofK (K := K) rfl) (by rfl) T.n_tuple PyProof.Rows.boot_tuple (pa_cons (pe_lc (own := [("_law_one", 2)]) (g := gName 2) (tt := tYes) rfl sc_l_made.nd (pi_tupK (K := K) rfl (pe_ix (ix_tupK (K := K) rfl) (pv 0) pe_int (fun _ _ => rfl))) (blkOk_by (own := [("_law_one", 2)]) (N := ["_law_told", "_law_word_here", "_law_one"]) (sc := defScope s_l_made) (by decide +kernel)) (fun _ _ _ _ _ => pg_name (i := 2) sc_l_made.nd rfl (Or.inl rfl)) (fun _ _ _ _ _ => pts_nil) (fun _ _ _ _ _ => (pe_call ih (hr.mono (by omega)) rfl T.m_l_made T.F_l_made.kp T.B_l_made .nil pass0 (pa_cons (pv 2) pa_nil)))) pa_nil)) pa_nil))))))
        pss_nil)
      (pss_cons (ps_if (pt_cmpR op_eq (pv 1) pe_str (nomark _))
        (pss_one (ps_ret (pe_make T.Mk_WhileRow (ok_WhileRow_init T) (hr.mono (by omega)) rfl T.c_WhileRow T.B_WhileRow_init .nil pass0 (pa_cons (pe_ix (ix_tupK (K := K) rfl) (pv 0) pe_int (fun _ _ => rfl)) (pa_cons (pe_callTy (tuple_ofK (K := K) rfl) (by rfl) T.n_tuple PyProof.Rows.boot_tuple (pa_cons (pe_lc (own := [("_law_one", 2)]) (g := gName 2) (tt := tYes) rfl sc_l_made.nd (pi_tupK (K := K) rfl (pe_ix (ix_tupK (K := K) rfl) (pv 0) pe_int (fun _ _ => rfl))) (blkOk_by (own := [("_law_one", 2)]) (N := ["_law_told", "_law_word_here", "_law_one"]) (sc := defScope s_l_made) (by decide +kernel)) (fun _ _ _ _ _ => pg_name (i := 2) sc_l_made.nd rfl (Or.inl rfl)) (fun _ _ _ _ _ => pts_nil) (fun _ _ _ _ _ => (pe_call ih (hr.mono (by omega)) rfl T.m_l_made T.F_l_made.kp T.B_l_made .nil pass0 (pa_cons (pv 2) pa_nil)))) pa_nil)) pa_nil)))))
        pss_nil)
      (pss_cons (ps_if (pt_cmpR op_eq (pv 1) pe_str (nomark _))
        (pss_one (ps_ret (pe_make T.Mk_SetRow (ok_SetRow_init T) (hr.mono (by omega)) rfl T.c_SetRow T.B_SetRow_init .nil pass0 (pa_cons (pe_ix (ix_tupK (K := K) rfl) (pv 0) pe_int (fun _ _ => rfl)) (pa_cons (pe_ix (ix_tupK (K := K) rfl) (pv 0) pe_int (fun _ _ => rfl)) (pa_cons (pe_ix (ix_tupK (K := K) rfl) (pv 0) pe_int (fun _ _ => rfl)) (pa_cons (pe_ix (ix_tupK (K := K) rfl) (pv 0) pe_int (fun _ _ => rfl)) pa_nil)))))))
        pss_nil)
      (pss_cons (ps_if (pt_cmpR (in_seqK (K := K) rfl) (pv 1) (pe_tup (pa_cons pe_str (pa_cons pe_str pa_nil))) (by rfl))
        (pss_one (ps_ret (pe_make T.Mk_LendRow (ok_LendRow_init T) (hr.mono (by omega)) rfl T.c_LendRow T.B_LendRow_init .nil pass0 (pa_cons (pv 1) (pa_cons (pe_ix (ix_tupK (K := K) rfl) (pv 0) pe_int (fun _ _ => rfl)) (pa_cons (pe_ix (ix_tupK (K := K) rfl) (pv 0) pe_int (fun _ _ => rfl)) pa_nil))))))
        pss_nil)
      (pss_cons (ps_if (pt_cmpR op_eq (pv 1) pe_str (nomark _))
        (pss_one (ps_ret (pe_make T.Mk_StepRow (ok_StepRow_init T) (hr.mono (by omega)) rfl T.c_StepRow T.B_StepRow_init .nil pass0 (pa_cons (pe_ix (ix_tupK (K := K) rfl) (pv 0) pe_int (fun _ _ => rfl)) (pa_cons (pe_ix (ix_tupK (K := K) rfl) (pv 0) pe_int (fun _ _ => rfl)) pa_nil)))))
        pss_nil)
      (pss_cons (ps_if (pt_cmpR op_eq (pv 1) pe_str (nomark _))
        (pss_one (ps_ret (pe_make T.Mk_CallRow (ok_CallRow_init T) (hr.mono (by omega)) rfl T.c_CallRow T.B_CallRow_init .nil pass0 (pa_cons (pe_ix (ix_tupK (K := K) rfl) (pv 0) pe_int (fun _ _ => rfl)) (pa_cons (pe_ix (ix_tupK (K := K) rfl) (pv 0) pe_int (fun _ _ => rfl)) (pa_cons (pe_ix (ix_tupK (K := K) rfl) (pv 0) pe_int (fun _ _ => rfl)) pa_nil))))))
        pss_nil)
      (pss_cons (ps_if (pt_cmpR op_eq (pv 1) pe_str (nomark _))
        (pss_one (ps_ret (pe_make T.Mk_BackRow (ok_BackRow_init T) (hr.mono (by omega)) rfl T.c_BackRow T.B_BackRow_init .nil pass0 (pa_cons (pe_ix (ix_tupK (K := K) rfl) (pv 0) pe_int (fun _ _ => rfl)) pa_nil))))
        pss_nil)
      (pss_cons (ps_if (pt_cmpR op_eq (pv 1) pe_str (nomark _))
        (pss_one (ps_ret (pe_make T.Mk_AskRow (ok_AskRow_init T) (hr.mono (by omega)) rfl T.c_AskRow T.B_AskRow_init .nil pass0 (pa_cons (pe_ix (ix_tupK (K := K) rfl) (pv 0) pe_int (fun _ _ => rfl)) pa_nil))))
        pss_nil)
      (pss_cons (ps_if (pt_cmpR op_eq (pv 1) pe_str (nomark _))
        (pss_one (ps_ret (pe_make T.Mk_TellRow (ok_TellRow_init T) (hr.mono (by omega)) rfl T.c_TellRow T.B_TellRow_init .nil pass0 (pa_cons (pe_ix (ix_tupK (K := K) rfl) (pv 0) pe_int (fun _ _ => rfl)) pa_nil))))
        pss_nil)
      (pss_one (ps_ret (pe_call (ok_l_box_row T) (hr.mono (by omega)) rfl T.m_l_box_row T.F_l_box_row.kp T.B_l_box_row .nil pass0 (pa_cons (pv 0) pa_nil)))))))))))))), ?_⟩
    have hv0 := hv
    cases r with
    | set x0 x1 x2 x3 =>
      obtain ⟨p, vs, rfl, hp, hvs⟩ := hv
      obtain ⟨_, _, rfl, hw, hvs⟩ := hvs
      obtain rfl : _ = V.str "set" := hw
      obtain ⟨v0, _, rfl, h0, hvs⟩ := hvs
      obtain rfl : v0 = _ := h0
      obtain ⟨v1, _, rfl, h1, hvs⟩ := hvs
      obtain ⟨v2, _, rfl, h2, hvs⟩ := hvs
      obtain rfl : v2 = _ := h2
      obtain ⟨v3, _, rfl, h3, hvs⟩ := hvs
      obtain rfl : _ = _ := hvs
      walk_at "sy"
      exact q _ _ (by walk_at "sm") ⟨_, _, _, _, _, _, rfl, by walk_at "look", rfl, h1.keep (by walk_at "kp"), rfl, h3.keep (by walk_at "kp")⟩
    | make x0 x1 x2 =>
      cases hb
    | non x0 x1 =>
      cases hb
    | give x0 x1 =>
      cases hb
    | take x0 x1 =>
      cases hb
    | fill x0 x1 =>
      cases hb
    | swap x0 x1 =>
      cases hb
    | get x0 x1 =>
      cases hb
    | put x0 x1 =>
      cases hb
    | has x0 x1 =>
      cases hb
    | drop x0 =>
      cases hb
    | lend x0 x1 x2 =>
      cases x0 with
      | true =>
        obtain ⟨p, vs, rfl, hp, hvs⟩ := hv
        obtain ⟨v0, _, rfl, h0, hvs⟩ := hvs
        obtain ⟨v1, _, rfl, h1, hvs⟩ := hvs
        obtain rfl : v1 = _ := h1
        obtain ⟨v2, _, rfl, h2, hvs⟩ := hvs
        obtain rfl : _ = _ := hvs
        obtain rfl : v0 = V.str "hand" := h0
        walk_at "sy"
        exact q _ _ (by walk_at "sm") ⟨_, _, _, _, _, rfl, by walk_at "look", rfl, rfl, h2.keep (by walk_at "kp")⟩
      | false =>
        obtain ⟨p, vs, rfl, hp, hvs⟩ := hv
        obtain ⟨v0, _, rfl, h0, hvs⟩ := hvs
        obtain ⟨v1, _, rfl, h1, hvs⟩ := hvs
        obtain rfl : v1 = _ := h1
        obtain ⟨v2, _, rfl, h2, hvs⟩ := hvs
        obtain rfl : _ = _ := hvs
        obtain rfl : v0 = V.str "look" := h0
        walk_at "sy"
        exact q _ _ (by walk_at "sm") ⟨_, _, _, _, _, rfl, by walk_at "look", rfl, rfl, h2.keep (by walk_at "kp")⟩
    | step x0 x1 =>
      obtain ⟨p, vs, rfl, hp, hvs⟩ := hv
      obtain ⟨_, _, rfl, hw, hvs⟩ := hvs
      obtain rfl : _ = V.str "step" := hw
      obtain ⟨v0, _, rfl, h0, hvs⟩ := hvs
      obtain rfl : v0 = _ := h0
      obtain ⟨v1, _, rfl, h1, hvs⟩ := hvs
      obtain rfl : v1 = _ := h1
      obtain rfl : _ = _ := hvs
      walk_at "sy"
      exact q _ _ (by walk_at "sm") ⟨_, _, _, _, rfl, by walk_at "look", rfl, rfl⟩
    | call x0 x1 x2 =>
      obtain ⟨p, vs, rfl, hp, hvs⟩ := hv
      obtain ⟨_, _, rfl, hw, hvs⟩ := hvs
      obtain rfl : _ = V.str "call" := hw
      obtain ⟨v0, _, rfl, h0, hvs⟩ := hvs
      obtain ⟨v1, _, rfl, h1, hvs⟩ := hvs
      obtain rfl : v1 = _ := h1
      obtain ⟨v2, _, rfl, h2, hvs⟩ := hvs
      obtain ⟨qa, ua, rfl, hqa, hua⟩ := h2
      obtain rfl : _ = _ := hvs
      walk_at "sy"
      exact q _ _ (by walk_at "sm") ⟨_, _, _, _, _, rfl, by walk_at "look", h0.keep (by walk_at "kp"), rfl, ⟨qa, ua, rfl, by walk_at "look", hua.keep (by walk_at "kp")⟩⟩
    | back x0 =>
      obtain ⟨p, vs, rfl, hp, hvs⟩ := hv
      obtain ⟨_, _, rfl, hw, hvs⟩ := hvs
      obtain rfl : _ = V.str "back" := hw
      obtain ⟨v0, _, rfl, h0, hvs⟩ := hvs
      obtain rfl : _ = _ := hvs
      walk_at "sy"
      exact q _ _ (by walk_at "sm") ⟨_, _, _, rfl, by walk_at "look", h0.keep (by walk_at "kp")⟩
    | ask x0 =>
      obtain ⟨p, vs, rfl, hp, hvs⟩ := hv
      obtain ⟨_, _, rfl, hw, hvs⟩ := hvs
      obtain rfl : _ = V.str "ask" := hw
      obtain ⟨v0, _, rfl, h0, hvs⟩ := hvs
      obtain rfl : v0 = _ := h0
      obtain rfl : _ = _ := hvs
      walk_at "sy"
      exact q _ _ (by walk_at "sm") ⟨_, _, _, rfl, by walk_at "look", rfl⟩
    | tell x0 =>
      obtain ⟨p, vs, rfl, hp, hvs⟩ := hv
      obtain ⟨_, _, rfl, hw, hvs⟩ := hvs
      obtain rfl : _ = V.str "tell" := hw
      obtain ⟨v0, _, rfl, h0, hvs⟩ := hvs
      obtain rfl : _ = _ := hvs
      walk_at "sy"
      exact q _ _ (by walk_at "sm") ⟨_, _, _, rfl, by walk_at "look", h0.keep (by walk_at "kp")⟩
theorem ok_l_made1 {j : Nat} {spI : Sp} (T : Tx K mg) (ih : FnOk P w K mg base CX0 j T.f_l_made T.d_l_made ["_law_told"] spI) : FnOk P w K mg base CX0 (j + 5) T.f_l_made T.d_l_made ["_law_told"] (spRow T isBox) := by
  refine T.F_l_made.ok sc_l_made (fun vs H Q E h => ?_) (fun cdv A outer s H vs Q E hr h => ?_)
  · obtain ⟨v, r, rfl, _⟩ := h
    rfl
  · obtain ⟨v, r, rfl, hv, hb, q⟩ := h
    refine ⟨_, (pss_cons (ps_set (i := 1) sc_l_made.nd rfl (Or.inl rfl) (pe_ix (ix_tupK (K := K) rfl) (pv 0) pe_int (fun _ _ => rfl)))
      (pss_cons (ps_if (pt_cmpR op_eq (pv 1) pe_str (nomark _))
        (pss_one (ps_ret (pe_make T.Mk_IfRow (ok_IfRow_init T) (hr.mono (by omega)) rfl T.c_IfRow T.B_IfRow_init .nil pass0 (pa_cons (pe_ix (ix_tupK (K := K) rfl) (pv 0) pe_int (fun _ _ => rfl)) (pa_cons (pe_callTy (tuple_ofK (K := K) rfl) (by rfl) T.n_tuple PyProof.Rows.boot_tuple (pa_cons (pe_lc (own := [("_law_one", 2)]) (g := gName 2) (tt := tYes) rfl sc_l_made.nd (pi_tupK (K := K) rfl (pe_ix (ix_tupK (K := K) rfl) (pv 0) pe_int (fun _ _ => rfl))) (blkOk_by (own := [("_law_one", 2)]) (N := ["_law_told", "_law_word_here", "_law_one"]) (sc := defScope s_l_made) (by decide +kernel)) (fun _ _ _ _ _ => pg_name (i := 2) sc_l_made.nd rfl (Or.inl rfl)) (fun _ _ _ _ _ => pts_nil) (fun _ _ _ _ _ => (pe_call ih (hr.mono (by omega)) rfl T.m_l_made T.F_l_made.kp T.B_l_made .nil pass0 (pa_cons (pv 2) pa_nil)))) pa_nil)) (pa_cons (pe_callTy (tuple_ofK (K := K) rfl) (by rfl) T.n_tuple PyProof.Rows.boot_tuple (pa_cons (pe_lc (own := [("_law_one", 2)]) (g := gName 2) (tt := tYes) rfl sc_l_made.nd (pi_tupK (K := K) rfl (pe_ix (ix_tupK (K := K) rfl) (pv 0) pe_int (fun _ _ => rfl))) (blkOk_by (own := [("_law_one", 2)]) (N := ["_law_told", "_law_word_here", "_law_one"]) (sc := defScope s_l_made) (by decide +kernel)) (fun _ _ _ _ _ => pg_name (i := 2) sc_l_made.nd rfl (Or.inl rfl)) (fun _ _ _ _ _ => pts_nil) (fun _ _ _ _ _ => (pe_call ih (hr.mono (by omega)) rfl T.m_l_made T.F_l_made.kp T.B_l_made .nil pass0 (pa_cons (pv 2) pa_nil)))) pa_nil)) pa_nil))))))
        pss_nil)
      (pss_cons (ps_if (pt_cmpR op_eq (pv 1) pe_str (nomark _))
        (pss_one (ps_ret (pe_make T.Mk_WhileRow (ok_WhileRow_init T) (hr.mono (by omega)) rfl T.c_WhileRow T.B_WhileRow_init .nil pass0 (pa_cons (pe_ix (ix_tupK (K := K) rfl) (pv 0) pe_int (fun _ _ => rfl)) (pa_cons (pe_callTy (tuple_ofK (K := K) rfl) (by rfl) T.n_tuple PyProof.Rows.boot_tuple (pa_cons (pe_lc (own := [("_law_one", 2)]) (g := gName 2) (tt := tYes) rfl sc_l_made.nd (pi_tupK (K := K) rfl (pe_ix (ix_tupK (K := K) rfl) (pv 0) pe_int (fun _ _ => rfl))) (blkOk_by (own := [("_law_one", 2)]) (N := ["_law_told", "_law_word_here", "_law_one"]) (sc := defScope s_l_made) (by decide +kernel)) (fun _ _ _ _ _ => pg_name (i := 2) sc_l_made.nd rfl (Or.inl rfl)) (fun _ _ _ _ _ => pts_nil) (fun _ _ _ _ _ => (pe_call ih (hr.mono (by omega)) rfl T.m_l_made T.F_l_made.kp T.B_l_made .nil pass0 (pa_cons (pv 2) pa_nil)))) pa_nil)) pa_nil)))))
        pss_nil)
      (pss_cons (ps_if (pt_cmpR op_eq (pv 1) pe_str (nomark _))
        (pss_one (ps_ret (pe_make T.Mk_SetRow (ok_SetRow_init T) (hr.mono (by omega)) rfl T.c_SetRow T.B_SetRow_init .nil pass0 (pa_cons (pe_ix (ix_tupK (K := K) rfl) (pv 0) pe_int (fun _ _ => rfl)) (pa_cons (pe_ix (ix_tupK (K := K) rfl) (pv 0) pe_int (fun _ _ => rfl)) (pa_cons (pe_ix (ix_tupK (K := K) rfl) (pv 0) pe_int (fun _ _ => rfl)) (pa_cons (pe_ix (ix_tupK (K := K) rfl) (pv 0) pe_int (fun _ _ => rfl)) pa_nil)))))))
        pss_nil)
      (pss_cons (ps_if (pt_cmpR (in_seqK (K := K) rfl) (pv 1) (pe_tup (pa_cons pe_str (pa_cons pe_str pa_nil))) (by rfl))
        (pss_one (ps_ret (pe_make T.Mk_LendRow (ok_LendRow_init T) (hr.mono (by omega)) rfl T.c_LendRow T.B_LendRow_init .nil pass0 (pa_cons (pv 1) (pa_cons (pe_ix (ix_tupK (K := K) rfl) (pv 0) pe_int (fun _ _ => rfl)) (pa_cons (pe_ix (ix_tupK (K := K) rfl) (pv 0) pe_int (fun _ _ => rfl)) pa_nil))))))
        pss_nil)
      (pss_cons (ps_if (pt_cmpR op_eq (pv 1) pe_str (nomark _))
        (pss_one (ps_ret (pe_make T.Mk_StepRow (ok_StepRow_init T) (hr.mono (by omega)) rfl T.c_StepRow T.B_StepRow_init .nil pass0 (pa_cons (pe_ix (ix_tupK (K := K) rfl) (pv 0) pe_int (fun _ _ => rfl)) (pa_cons (pe_ix (ix_tupK (K := K) rfl) (pv 0) pe_int (fun _ _ => rfl)) pa_nil)))))
        pss_nil)
      (pss_cons (ps_if (pt_cmpR op_eq (pv 1) pe_str (nomark _))
        (pss_one (ps_ret (pe_make T.Mk_CallRow (ok_CallRow_init T) (hr.mono (by omega)) rfl T.c_CallRow T.B_CallRow_init .nil pass0 (pa_cons (pe_ix (ix_tupK (K := K) rfl) (pv 0) pe_int (fun _ _ => rfl)) (pa_cons (pe_ix (ix_tupK (K := K) rfl) (pv 0) pe_int (fun _ _ => rfl)) (pa_cons (pe_ix (ix_tupK (K := K) rfl) (pv 0) pe_int (fun _ _ => rfl)) pa_nil))))))
        pss_nil)
      (pss_cons (ps_if (pt_cmpR op_eq (pv 1) pe_str (nomark _))
        (pss_one (ps_ret (pe_make T.Mk_BackRow (ok_BackRow_init T) (hr.mono (by omega)) rfl T.c_BackRow T.B_BackRow_init .nil pass0 (pa_cons (pe_ix (ix_tupK (K := K) rfl) (pv 0) pe_int (fun _ _ => rfl)) pa_nil))))
        pss_nil)
      (pss_cons (ps_if (pt_cmpR op_eq (pv 1) pe_str (nomark _))
        (pss_one (ps_ret (pe_make T.Mk_AskRow (ok_AskRow_init T) (hr.mono (by omega)) rfl T.c_AskRow T.B_AskRow_init .nil pass0 (pa_cons (pe_ix (ix_tupK (K := K) rfl) (pv 0) pe_int (fun _ _ => rfl)) pa_nil))))
        pss_nil)
      (pss_cons (ps_if (pt_cmpR op_eq (pv 1) pe_str (nomark _))
        (pss_one (ps_ret (pe_make T.Mk_TellRow (ok_TellRow_init T) (hr.mono (by omega)) rfl T.c_TellRow T.B_TellRow_init .nil pass0 (pa_cons (pe_ix (ix_tupK (K := K) rfl) (pv 0) pe_int (fun _ _ => rfl)) pa_nil))))
        pss_nil)
      (pss_one (ps_ret (pe_call (ok_l_box_row T) (hr.mono (by omega)) rfl T.m_l_box_row T.F_l_box_row.kp T.B_l_box_row .nil pass0 (pa_cons (pv 0) pa_nil)))))))))))))), ?_⟩
    have hv0 := hv
    obtain ⟨w0, rest, hw, m1, m2, m3, m4, m5, m6, m7, m8, m9, m10⟩ := box_word hb
    rw [hw] at hv
    obtain ⟨p, vs, rfl, hp, hvs⟩ := hv
    obtain ⟨_, vr, rfl, hw1, _⟩ := hvs
    obtain rfl : _ = V.str w0 := hw1
    have hat : atI (V.str w0 :: vr) 0 = some _ := atI_nat (j := 0) rfl
    have ne0 : ∀ z : Str, ¬ w0 = z → eqV (V.str z) (V.str w0) = false := fun z h => decide_eq_false (fun e => h e.symm)
    walk_at "sy"
    rw [if_neg (by unfold inV; simp [ne0 _ m4, ne0 _ m5])]
    walk_at "sy"
    refine ⟨_, r, rfl, hv0.keep (by walk_at "kp"), hb, fun H2 v2 s2 hr2 => ?_⟩
    walk_at "sy"
    exact q _ _ (by walk_at "sm") hr2
end
/-! ### rows made of what they tell, ifs and whiles too -/
section
variable {P : Program} {w : World} {K : PySem.W.Frag} {mg : Str → Option Value} {base : Heap}
def isB : El → Bool
  | .iff _ _ _ => true
  | .whl _ _ => true
  | _ => false
def spBk (T : Tx K mg) (d : Nat) : Sp := fun vs H Q _ => ∃ (v : V) (e : El), vs = [v] ∧ IsD H (elD e) v ∧ isB e = true ∧ okM (d + 1) e ∧ ∀ (H' : Hp) (v' : V), Same H H' → ElAt T H' e v' → Q v' H'
theorem ok_l_madeB {j d : Nat} (T : Tx K mg) (ih : FnOk P w K mg base CX0 j T.f_l_made T.d_l_made ["_law_told"] (spEl T d)) : FnOk P w K mg base CX0 (j + 5) T.f_l_made T.d_l_made ["_law_told"] (spBk T d) := by
  refine T.F_l_made.ok sc_l_made (fun vs H Q E h => ?_) (fun cdv A outer s H vs Q E hr h => ?_)
  · obtain ⟨v, e, rfl, _⟩ := h
    rfl
  · obtain ⟨v, e, rfl, hv, hk, ok, q⟩ := h
    refine ⟨_, (pss_cons (ps_set (i := 1) sc_l_made.nd rfl (Or.inl rfl) (pe_ix (ix_tupK (K := K) rfl) (pv 0) pe_int (fun _ _ => rfl)))
      (pss_cons (ps_if (pt_cmpR op_eq (pv 1) pe_str (nomark _))
        (pss_one (ps_ret (pe_make T.Mk_IfRow (ok_IfRow_init T) (hr.mono (by omega)) rfl T.c_IfRow T.B_IfRow_init .nil pass0 (pa_cons (pe_ix (ix_tupK (K := K) rfl) (pv 0) pe_int (fun _ _ => rfl)) (pa_cons (pe_callTy (tuple_ofK (K := K) rfl) (by rfl) T.n_tuple PyProof.Rows.boot_tuple (pa_cons (pe_lc (own := [("_law_one", 2)]) (g := gName 2) (tt := tYes) rfl sc_l_made.nd (pi_tupK (K := K) rfl (pe_ix (ix_tupK (K := K) rfl) (pv 0) pe_int (fun _ _ => rfl))) (blkOk_by (own := [("_law_one", 2)]) (N := ["_law_told", "_law_word_here", "_law_one"]) (sc := defScope s_l_made) (by decide +kernel)) (fun _ _ _ _ _ => pg_name (i := 2) sc_l_made.nd rfl (Or.inl rfl)) (fun _ _ _ _ _ => pts_nil) (fun _ _ _ _ _ => (pe_call ih (hr.mono (by omega)) rfl T.m_l_made T.F_l_made.kp T.B_l_made .nil pass0 (pa_cons (pv 2) pa_nil)))) pa_nil)) (pa_cons (pe_callTy (tuple_ofK (K := K) rfl) (by rfl) T.n_tuple PyProof.Rows.boot_tuple (pa_cons (pe_lc (own := [("_law_one", 2)]) (g := gName 2) (tt := tYes) rfl sc_l_made.nd (pi_tupK (K := K) rfl (pe_ix (ix_tupK (K := K) rfl) (pv 0) pe_int (fun _ _ => rfl))) (blkOk_by (own := [("_law_one", 2)]) (N := ["_law_told", "_law_word_here", "_law_one"]) (sc := defScope s_l_made) (by decide +kernel)) (fun _ _ _ _ _ => pg_name (i := 2) sc_l_made.nd rfl (Or.inl rfl)) (fun _ _ _ _ _ => pts_nil) (fun _ _ _ _ _ => (pe_call ih (hr.mono (by omega)) rfl T.m_l_made T.F_l_made.kp T.B_l_made .nil pass0 (pa_cons (pv 2) pa_nil)))) pa_nil)) pa_nil))))))
        pss_nil)
      (pss_cons (ps_if (pt_cmpR op_eq (pv 1) pe_str (nomark _))
        (pss_one (ps_ret (pe_make T.Mk_WhileRow (ok_WhileRow_init T) (hr.mono (by omega)) rfl T.c_WhileRow T.B_WhileRow_init .nil pass0 (pa_cons (pe_ix (ix_tupK (K := K) rfl) (pv 0) pe_int (fun _ _ => rfl)) (pa_cons (pe_callTy (tuple_ofK (K := K) rfl) (by rfl) T.n_tuple PyProof.Rows.boot_tuple (pa_cons (pe_lc (own := [("_law_one", 2)]) (g := gName 2) (tt := tYes) rfl sc_l_made.nd (pi_tupK (K := K) rfl (pe_ix (ix_tupK (K := K) rfl) (pv 0) pe_int (fun _ _ => rfl))) (blkOk_by (own := [("_law_one", 2)]) (N := ["_law_told", "_law_word_here", "_law_one"]) (sc := defScope s_l_made) (by decide +kernel)) (fun _ _ _ _ _ => pg_name (i := 2) sc_l_made.nd rfl (Or.inl rfl)) (fun _ _ _ _ _ => pts_nil) (fun _ _ _ _ _ => (pe_call ih (hr.mono (by omega)) rfl T.m_l_made T.F_l_made.kp T.B_l_made .nil pass0 (pa_cons (pv 2) pa_nil)))) pa_nil)) pa_nil)))))
        pss_nil)
      (pss_cons (ps_if (pt_cmpR op_eq (pv 1) pe_str (nomark _))
        (pss_one (ps_ret (pe_make T.Mk_SetRow (ok_SetRow_init T) (hr.mono (by omega)) rfl T.c_SetRow T.B_SetRow_init .nil pass0 (pa_cons (pe_ix (ix_tupK (K := K) rfl) (pv 0) pe_int (fun _ _ => rfl)) (pa_cons (pe_ix (ix_tupK (K := K) rfl) (pv 0) pe_int (fun _ _ => rfl)) (pa_cons (pe_ix (ix_tupK (K := K) rfl) (pv 0) pe_int (fun _ _ => rfl)) (pa_cons (pe_ix (ix_tupK (K := K) rfl) (pv 0) pe_int (fun _ _ => rfl)) pa_nil)))))))
        pss_nil)
      (pss_cons (ps_if (pt_cmpR (in_seqK (K := K) rfl) (pv 1) (pe_tup (pa_cons pe_str (pa_cons pe_str pa_nil))) (by rfl))
        (pss_one (ps_ret (pe_make T.Mk_LendRow (ok_LendRow_init T) (hr.mono (by omega)) rfl T.c_LendRow T.B_LendRow_init .nil pass0 (pa_cons (pv 1) (pa_cons (pe_ix (ix_tupK (K := K) rfl) (pv 0) pe_int (fun _ _ => rfl)) (pa_cons (pe_ix (ix_tupK (K := K) rfl) (pv 0) pe_int (fun _ _ => rfl)) pa_nil))))))
        pss_nil)
      (pss_cons (ps_if (pt_cmpR op_eq (pv 1) pe_str (nomark _))
        (pss_one (ps_ret (pe_make T.Mk_StepRow (ok_StepRow_init T) (hr.mono (by omega)) rfl T.c_StepRow T.B_StepRow_init .nil pass0 (pa_cons (pe_ix (ix_tupK (K := K) rfl) (pv 0) pe_int (fun _ _ => rfl)) (pa_cons (pe_ix (ix_tupK (K := K) rfl) (pv 0) pe_int (fun _ _ => rfl)) pa_nil)))))
        pss_nil)
      (pss_cons (ps_if (pt_cmpR op_eq (pv 1) pe_str (nomark _))
        (pss_one (ps_ret (pe_make T.Mk_CallRow (ok_CallRow_init T) (hr.mono (by omega)) rfl T.c_CallRow T.B_CallRow_init .nil pass0 (pa_cons (pe_ix (ix_tupK (K := K) rfl) (pv 0) pe_int (fun _ _ => rfl)) (pa_cons (pe_ix (ix_tupK (K := K) rfl) (pv 0) pe_int (fun _ _ => rfl)) (pa_cons (pe_ix (ix_tupK (K := K) rfl) (pv 0) pe_int (fun _ _ => rfl)) pa_nil))))))
        pss_nil)
      (pss_cons (ps_if (pt_cmpR op_eq (pv 1) pe_str (nomark _))
        (pss_one (ps_ret (pe_make T.Mk_BackRow (ok_BackRow_init T) (hr.mono (by omega)) rfl T.c_BackRow T.B_BackRow_init .nil pass0 (pa_cons (pe_ix (ix_tupK (K := K) rfl) (pv 0) pe_int (fun _ _ => rfl)) pa_nil))))
        pss_nil)
      (pss_cons (ps_if (pt_cmpR op_eq (pv 1) pe_str (nomark _))
        (pss_one (ps_ret (pe_make T.Mk_AskRow (ok_AskRow_init T) (hr.mono (by omega)) rfl T.c_AskRow T.B_AskRow_init .nil pass0 (pa_cons (pe_ix (ix_tupK (K := K) rfl) (pv 0) pe_int (fun _ _ => rfl)) pa_nil))))
        pss_nil)
      (pss_cons (ps_if (pt_cmpR op_eq (pv 1) pe_str (nomark _))
        (pss_one (ps_ret (pe_make T.Mk_TellRow (ok_TellRow_init T) (hr.mono (by omega)) rfl T.c_TellRow T.B_TellRow_init .nil pass0 (pa_cons (pe_ix (ix_tupK (K := K) rfl) (pv 0) pe_int (fun _ _ => rfl)) pa_nil))))
        pss_nil)
      (pss_one (ps_ret (pe_call (ok_l_box_row T) (hr.mono (by omega)) rfl T.m_l_box_row T.F_l_box_row.kp T.B_l_box_row .nil pass0 (pa_cons (pv 0) pa_nil)))))))))))))), ?_⟩
    cases e with
    | iff a rs os =>
      obtain ⟨p, vs, rfl, hp, hvs⟩ := hv
      obtain ⟨_, _, rfl, hw, hvs⟩ := hvs
      obtain rfl : _ = V.str "if" := hw
      obtain ⟨v0, _, rfl, h0, hvs⟩ := hvs
      obtain ⟨v1, _, rfl, h1, hvs⟩ := hvs
      obtain ⟨q1, us1, rfl, hq1, hu1⟩ := h1
      obtain ⟨v2, _, rfl, h2, hvs⟩ := hvs
      obtain ⟨q2, us2, rfl, hq2, hu2⟩ := h2
      obtain rfl : _ = _ := hvs
      obtain ⟨l1, l2, k1, k2⟩ := ok
      walk_at "sy"
      refine k_lcT us1 (fun D i Hy => Same H Hy ∧ ∃ ws, Hy D = some (.lst ws) ∧ ElsAt T Hy (rs.take i) ws ∧ ws.length = i) (fun D Hy n => ⟨n.same, [], n.at_, rfl, rfl⟩) (fun D i Hy _ h => SqT.of (h.1 _ _ hq1)) ?_ ?_
      · rintro D hD i x Hy hx ⟨sy, ws, hDy, hws, hwl⟩
        obtain ⟨dd, hd1, hd2⟩ := hu1.at hx
        obtain ⟨r, hr1, rfl⟩ := elD_at hd1
        have hi := (List.getElem?_eq_some_iff.mp hx).1
        have hul := hu1.len
        rw [elDs_len] at hul
        have hwl2 : ws.length ≤ 1000 := by omega
        walk_at "sy"
        refine ⟨x, r, rfl, hd2.keep (Keep.of sy), k1 r (List.mem_of_getElem? hr1), fun H2 v2 s2 hv => ?_⟩
        have hD2 := s2 _ _ hDy
        walk_at "sy"
        rename_i H4 c4
        refine ⟨c4.sameOwn (sy.trans s2) hD, ws ++ [v2], c4.at_, ?_, by simp [hwl]⟩
        rw [take_snoc hr1]
        exact ElsAt.snoc (hv.keep c4.keepL) ((hws.keep (Keep.of s2)).keep c4.keepL)
      · rintro D hD Hy ⟨sy, ws, hDy, hws, hwl⟩
        rw [show us1.length = rs.length by rw [hu1.len, elDs_len], List.take_length] at hws
        have hpy := sy _ _ hp
        walk_at "sy"
        rename_i t1 z1 H1 n1
        have s1 := sy.trans n1.same
        have hq2' := s1 _ _ hq2
        have hu2' := hu2.keep (Keep.of s1)
        refine k_lcT us2 (fun D i Hy => Same H1 Hy ∧ ∃ ws, Hy D = some (.lst ws) ∧ ElsAt T Hy (os.take i) ws ∧ ws.length = i) (fun D Hy n => ⟨n.same, [], n.at_, rfl, rfl⟩) (fun D i Hy _ h => SqT.of (h.1 _ _ hq2')) ?_ ?_
        · rintro D hD i x Hy hx ⟨sy, ws, hDy, hws, hwl⟩
          obtain ⟨dd, hd1, hd2⟩ := hu2'.at hx
          obtain ⟨r, hr1, rfl⟩ := elD_at hd1
          have hi := (List.getElem?_eq_some_iff.mp hx).1
          have hul := hu2'.len
          rw [elDs_len] at hul
          have hwl2 : ws.length ≤ 1000 := by omega
          walk_at "sy"
          refine ⟨x, r, rfl, hd2.keep (Keep.of sy), k2 r (List.mem_of_getElem? hr1), fun H2 v2 s2 hv => ?_⟩
          have hD2 := s2 _ _ hDy
          walk_at "sy"
          rename_i H4 c4
          refine ⟨c4.sameOwn (sy.trans s2) hD, ws ++ [v2], c4.at_, ?_, by simp [hwl]⟩
          rw [take_snoc hr1]
          exact ElsAt.snoc (hv.keep c4.keepL) ((hws.keep (Keep.of s2)).keep c4.keepL)
        · rintro D2 hD2 Hz ⟨sz, ws2, hDz, hws2, hwl2⟩
          rw [show us2.length = os.length by rw [hu2.len, elDs_len], List.take_length] at hws2
          have ht1 := sz _ _ n1.at_
          walk_at "sy"
          rename_i t2 z2 H2 n2 x dx H3 n3
          have s13 := sz.trans (n2.same.trans n3.same)
          exact q _ _ (s1.trans s13) ⟨x, dx, t1, t2, v0, ws, ws2, rfl, n3.at_, h0.keep (Keep.of (s1.trans s13)), n3.get (n2.get ht1), (hws.keep n1.keep).keep (Keep.of s13), n3.get n2.at_, (hws2.keep n2.keep).keep n3.keep⟩
    | whl a rs =>
      obtain ⟨p, vs, rfl, hp, hvs⟩ := hv
      obtain ⟨_, _, rfl, hw, hvs⟩ := hvs
      obtain rfl : _ = V.str "while" := hw
      obtain ⟨v0, _, rfl, h0, hvs⟩ := hvs
      obtain ⟨v1, _, rfl, h1, hvs⟩ := hvs
      obtain ⟨q1, us1, rfl, hq1, hu1⟩ := h1
      obtain rfl : _ = _ := hvs
      obtain ⟨l1, k1⟩ := ok
      walk_at "sy"
      refine k_lcT us1 (fun D i Hy => Same H Hy ∧ ∃ ws, Hy D = some (.lst ws) ∧ ElsAt T Hy (rs.take i) ws ∧ ws.length = i) (fun D Hy n => ⟨n.same, [], n.at_, rfl, rfl⟩) (fun D i Hy _ h => SqT.of (h.1 _ _ hq1)) ?_ ?_
      · rintro D hD i x Hy hx ⟨sy, ws, hDy, hws, hwl⟩
        obtain ⟨dd, hd1, hd2⟩ := hu1.at hx
        obtain ⟨r, hr1, rfl⟩ := elD_at hd1
        have hi := (List.getElem?_eq_some_iff.mp hx).1
        have hul := hu1.len
        rw [elDs_len] at hul
        have hwl2 : ws.length ≤ 1000 := by omega
        walk_at "sy"
        refine ⟨x, r, rfl, hd2.keep (Keep.of sy), k1 r (List.mem_of_getElem? hr1), fun H2 v2 s2 hv => ?_⟩
        have hD2 := s2 _ _ hDy
        walk_at "sy"
        rename_i H4 c4
        refine ⟨c4.sameOwn (sy.trans s2) hD, ws ++ [v2], c4.at_, ?_, by simp [hwl]⟩
        rw [take_snoc hr1]
        exact ElsAt.snoc (hv.keep c4.keepL) ((hws.keep (Keep.of s2)).keep c4.keepL)
      · rintro D hD Hy ⟨sy, ws, hDy, hws, hwl⟩
        rw [show us1.length = rs.length by rw [hu1.len, elDs_len], List.take_length] at hws
        walk_at "sy"
        rename_i t1 z1 H1 n1 x dx H3 n3
        have s13 := sy.trans (n1.same.trans n3.same)
        exact q _ _ s13 ⟨x, dx, t1, v0, ws, rfl, n3.at_, h0.keep (Keep.of s13), n3.get n1.at_, (hws.keep n1.keep).keep n3.keep⟩
    | row r => cases hk
    | rcd n fs => cases hk
    | hel n ps g rs => cases hk
theorem ok_l_madeN (T : Tx K mg) : FnOk P w K mg base CX0 1 T.f_l_made T.d_l_made ["_law_told"] (fun _ _ _ _ => False) := T.F_l_made.ok sc_l_made (fun vs H Q E h => h.elim) (fun cdv A outer s H vs Q E hr h => h.elim)
theorem ok_l_madeS {j d : Nat} (T : Tx K mg) (ih : FnOk P w K mg base CX0 j T.f_l_made T.d_l_made ["_law_told"] (spEl T d)) : FnOk P w K mg base CX0 (j + 5) T.f_l_made T.d_l_made ["_law_told"] (spEl T (d + 1)) :=
  FnOk_or (FnOk_or (ok_l_made0 T ih) (ok_l_made1 T ih) (fun vs H Q E h => h)) (ok_l_madeB T ih) (fun vs H Q E ⟨v, e, hvs, hv, ok, q⟩ => by
    cases e with
    | row r =>
      refine .inl ?_
      cases hc : isBox r with
      | true => exact .inr ⟨v, r, hvs, hv, hc, q⟩
      | false => exact .inl ⟨v, r, hvs, hv, by show (!isBox r) = true; rw [hc]; rfl, q⟩
    | iff a rs os => exact .inr ⟨v, _, hvs, hv, rfl, ok, q⟩
    | whl a rs => exact .inr ⟨v, _, hvs, hv, rfl, ok, q⟩
    | rcd n fs => exact ok.elim
    | hel n ps g rs => exact ok.elim)
theorem ok_l_made (T : Tx K mg) : ∀ d : Nat, FnOk P w K mg base CX0 (5 * d + 6) T.f_l_made T.d_l_made ["_law_told"] (spEl T d)
  | 0 => FnOk_or (FnOk_or (ok_l_made0 (j := 1) T (ok_l_madeN T)) (ok_l_made1 (j := 1) T (ok_l_madeN T)) (fun vs H Q E h => h)) (FnOk_lift (ok_l_madeN T) (by decide)) (fun vs H Q E ⟨v, e, hvs, hv, ok, q⟩ => by
    cases e with
    | row r =>
      refine .inl ?_
      cases hc : isBox r with
      | true => exact .inr ⟨v, r, hvs, hv, hc, q⟩
      | false => exact .inl ⟨v, r, hvs, hv, by show (!isBox r) = true; rw [hc]; rfl, q⟩
    | iff a rs os => exact ok.elim
    | whl a rs => exact ok.elim
    | rcd n fs => exact ok.elim
    | hel n ps g rs => exact ok.elim)
  | d + 1 => ok_l_madeS (j := 5 * d + 6) T (ok_l_made T d)
end
/-! ### str(x) of a tuple within tuples, whatever is under way: some text, not too long -/
section
open PySem.Spec PyProof.Rows
def ReprB (prog : Program) (w : World) (h₀ : Heap) (d B : Nat) (x : Value) : Prop :=
  ∀ (base : Nat), base + B ≤ sizeLine → ∀ (A : Around) (E : Value → Shared → Prop) (s : Shared) (Q : Str → Shared → Prop), A.units + d < cLine → s.heap = h₀ →
    (∀ (t : Str) (tk : Tok), t.length ≤ B → Q t { s with toks := tk }) → wpAny (model prog w) A (pyReprUnder base x) Q E s
theorem ReprB.of_is {prog : Program} {w : World} {x : Value} {t : Str} {h₀ : Heap} {d B : Nat} (h : ReprIs prog w x t) (hl : t.length ≤ B) : ReprB prog w h₀ d B x :=
  fun base hb A E s Q _ _ hQ => h base (by omega) A E s Q fun tk => hQ t tk hl
theorem ReprB.up {prog : Program} {w : World} {x : Value} {h₀ : Heap} {d d' B : Nat} (h : ReprB prog w h₀ d B x) (l : d ≤ d') : ReprB prog w h₀ d' B x :=
  fun base hb A E s Q hu hh hQ => h base hb A E s Q (by omega) hh hQ
inductive ReprAllB (prog : Program) (w : World) (h₀ : Heap) (d : Nat) : List Value → Nat → Prop
  | nil : ReprAllB prog w h₀ d [] 0
  | cons {x : Value} {l : List Value} {B C : Nat} : ReprB prog w h₀ d B x → ReprAllB prog w h₀ d l C → ReprAllB prog w h₀ d (x :: l) (B + 2 + C)
theorem ReprAllB.up {prog : Program} {w : World} {h₀ : Heap} {d d' : Nat} (l : d ≤ d') : ∀ {xs : List Value} {C : Nat}, ReprAllB prog w h₀ d xs C → ReprAllB prog w h₀ d' xs C
  | _, _, .nil => .nil
  | _, _, .cons h r => .cons (h.up l) (ReprAllB.up l r)
section
variable {prog : Program} {w : World} {A : Around} {E : Value → Shared → Prop} {h₀ : Heap} {d : Nat}
theorem anyUnder {M : Model} {s : Shared} {self : Value} {Q : Bool → Shared → Prop} (h : ∀ b, Q b s) : wpAny M A (Builtin.Tuple.tupleReprUnderWay self) Q E s := by
  rw [tupleReprUnderWay_eq]
  exact wpAny_bind (wpAny_stack_any fun st => wpAny_pure (h _))
theorem tupFoldB (hu : A.units + d < cLine) : ∀ (l : List Value) (C : Nat) (acc : Array Str) (n : Nat) (s : Shared) (Q : (Array Str × Nat) → Shared → Prop), ReprAllB prog w h₀ d l C → n + C ≤ sizeLine → s.heap = h₀ →
    (∀ (ts : List Str) (tk : Tok), ts.length = l.length → piled ts ≤ C → Q ⟨acc ++ ts.toArray, n + piled ts⟩ { s with toks := tk }) →
    wpAny (model prog w) A (forIn l (⟨acc, n⟩ : (Array Str × Nat)) tupBody) Q E s := by
  intro l
  induction l with
  | nil =>
    intro C acc n s Q hT _ _ h
    have h0 := h [] s.toks rfl (Nat.zero_le _)
    simp only [List.forIn_nil]
    exact wpAny_pure (by simpa [piled] using h0)
  | cons x l ih =>
    intro C acc n s Q hT hn hh h
    cases hT with
    | cons hx hl =>
      rename_i B C'
      rw [List.forIn_cons]
      refine wpAny_bind (wpAny_bind (hx (n + 1) (by omega) _ _ _ _ hu hh fun t tk ht => wpAny_pure ?_))
      refine ih C' (acc.push t) (n + (t.length + 2)) _ Q hl (by omega) hh fun ts tk' hl2 hp => ?_
      have h1 := h (t :: ts) tk' (by simp [hl2]) (by rw [piled_cons]; omega)
      have e : n + piled (t :: ts) = n + (t.length + 2) + piled ts := by rw [piled_cons]; omega
      rw [e] at h1
      simpa using h1
theorem way_le : ("(...)" : Str).length ≤ 5 := by decide +kernel
theorem text_le (ts : List Str) : (tupleText ts).length ≤ piled ts + 3 := by
  have e3 : (((if ts.length == 1 then ",)" else ")" : String) : Str)).length ≤ 2 := by split <;> decide +kernel
  have e1 : ((("(" : String) : Str)).length = 1 := rfl
  unfold tupleText
  rw [strLen_append, strLen_append, e1]
  by_cases h : ts = []
  · subst h
    decide +kernel
  · have := join_length_add ts h
    omega
theorem own_tupleB {a : Addr} {o : Obj} {items : Array Value} {n C : Nat} (ha : h₀.get? a = some o) (hd : o.data = .seq items n) (hT : ReprAllB prog w h₀ d items.toList C)
    {s : Shared} {R : Result → Shared → Prop} {base : Nat} {id : String} {rest : List Value} (hcu : (A.under (.builtin id ⟨.ref a :: rest, []⟩)).units = A.units + 1) (hu : A.units + (d + 1) < cLine) (hh : s.heap = h₀)
    (hR : ∀ (t : Str) (u tk : Tok), t.length ≤ 7 + C → R (.ok (.ret (.str t u))) { s with toks := tk }) (hsz : base + (7 + C) ≤ sizeLine) :
    wpOwn (model prog w) A (.builtin id ⟨.ref a :: rest, []⟩) (Builtin.tupleReprAt base ⟨[.ref a], []⟩) (fun fin s' => match fin with | .done f => R (.ok f) s' | .again c' => c'.quiet = true ∧ codeAny (model prog w) A c' R s') (fun e s' => R (.error e) s') s := by
  refine wpOwn_of_wpAny ?_
  rw [tuple_repr_tree]
  refine wpAny_bind (anyUnder fun b => ?_)
  cases b with
  | true =>
    refine PySem.W.KFB.if_so rfl ?_
    refine wpAny_bind (wpAny_rule ?_)
    refine wpAny_bind (wpAny_mkStr (wpAny_pure ?_) (by decide +kernel))
    exact hR "(...)" _ _ (Nat.le_trans way_le (by omega))
  | false =>
    refine PySem.W.KFB.if_not rfl ?_
    unfold tupleReprRest Builtin.Tuple.tupleItemsOf
    refine wpAny_bind (wpAny_bind (wpAny_seqItems (by rw [hh]; exact ha) hd (wpAny_pure ?_)))
    rw [← Array.forIn_toList]
    refine wpAny_bind (tupFoldB (d := d) (by rw [hcu]; omega) _ C _ _ _ _ hT (by omega) hh fun ts tk hl hp => ?_)
    have hlen : ts.length = items.size := by simpa using hl
    have h3 := text_le ts
    have hsz0 : (tupleText ts).length ≤ sizeLine := by omega
    refine wpAny_bind (wpAny_mkStr (wpAny_pure ?_) (by simpa [tupleText, hlen] using hsz0))
    have h1 := hR (tupleText ts) tk (tk + 1) (by omega)
    simpa [tupleText, hlen] using h1
theorem ReprB.tuple {a : Addr} {o : Obj} {items : Array Value} {n C : Nat} (ha : h₀.get? a = some o) (hc : o.cls = .type "tuple") (hd : o.data = .seq items n) (hT : ReprAllB prog w h₀ d items.toList C) : ReprB prog w h₀ (d + 1) (7 + C) (.ref a) := by
  intro base hb A E s Q hu hh hQ
  have hty : s.TypeIs (.ref a) "tuple" := ⟨o, by rw [hh]; exact ha, hc⟩
  exact wpAny_pyReprUnder_ref (by omega) (wpAny_pyReprObjUnder_twin (twin := "tuple.__repr__.under") hty F.slot_tuple_repr rfl (by omega)
    (call_twin_own (F.quiet_tuple_repr_under _) F.entry_tuple_repr_under F.check_tuple_repr_under hty F.slot_tuple_repr (F.args_tuple_repr_1 _)
      (own_tupleB (R := callEnd _ E) ha hd hT (units_under_tuple_repr_under _ _) hu hh (fun t u tk ht => ⟨⟨_, _, rfl⟩, _, _, rfl, hQ t tk ht⟩) hb)))
theorem str_tupleB {s : Shared} {a : Addr} {o : Obj} {items : Array Value} {n C : Nat} {Q : Value → Shared → Prop} (ha : s.heap.get? a = some o) (hc : o.cls = .type "tuple") (hd : o.data = .seq items n)
    (hT : ∀ (prog : Program) (w : World), ReprAllB prog w s.heap d items.toList C) (hu : A.units + (d + 4) < cLine) (hsz : 7 + C ≤ sizeLine)
    (hQ : ∀ (t : Str) (u tk : Tok), t.length ≤ 7 + C → Q (.str t u) { s with toks := tk }) : wpAny (model prog w) A (call (.type "str") [.ref a]) Q E s :=
  callType_new F.called_str (by decide) (F.typeCall_str_1 _) (F.newCall_str_1 _) (fun obj => F.args_object_init_2 obj _) F.entry_str_new
    (meets_str_new (S := fun A' R s' => A'.units + (d + 3) < cLine ∧ s'.heap = s.heap ∧ ∀ (t : Str) (u tk : Tok), t.length ≤ 7 + C → R (.ok (.ret (.str t u))) { s' with toks := tk })
      fun prog' w' A' R s' h => by
        have hty : s'.TypeIs (.ref a) "tuple" := ⟨o, by rw [h.2.1]; exact ha, hc⟩
        refine wpAny_strOf_slot rfl (by show A'.units + 1 + 1 < cLine; have := h.1; omega) hty F.slot_tuple_str F.slot_tuple_repr ?_
        exact wpAny_call (codeAny_call_builtin_own (Code.quiet_builtin _ (by decide +kernel)) F.entry_tuple_repr (F.slot_tuple_repr.check _ _ _ _ _ _ _ _ hty (F.args_tuple_repr_1 _)
          (own_tupleB (base := 0) (R := callEnd _ _) (by rw [h.2.1]; exact ha) hd (by rw [h.2.1]; exact hT prog' w') (units_under_tuple_repr _ _) (by show A'.units + 1 + 1 + (d + 1) < cLine; have := h.1; omega) rfl (fun t u tk ht => ⟨_, _, rfl, h.2.2 t u tk ht⟩) (by omega)))))
    ⟨by show A.units + 1 + (d + 3) < cLine; omega, rfl, fun t u tk ht => ⟨typeIs_str _ _ _, hQ t u tk ht⟩⟩
end
end
/-- signs, at most -/
def lowS (s : Str) : Prop := ∀ c ∈ s.cps.toList, c < 16 ^ 8
mutual
def szD : Dt → Nat
  | .non => 4
  | .int _ => 9
  | .str s => 10 * s.length + 2
  | .tup ds => 7 + szDs ds
def szDs : List Dt → Nat
  | [] => 0
  | d :: ds => szD d + 2 + szDs ds
end
mutual
def lowD : Dt → Prop
  | .non => True
  | .int i => 0 ≤ i ∧ i ≤ 1000002
  | .str s => lowS s
  | .tup ds => lowDs ds
def lowDs : List Dt → Prop
  | [] => True
  | d :: ds => lowD d ∧ lowDs ds
end
theorem szDs_snoc (d : Dt) : ∀ ds : List Dt, szDs (ds ++ [d]) = szDs ds + (szD d + 2)
  | [] => by show szD d + 2 + 0 = 0 + _; omega
  | e :: ds => by
    show szD e + 2 + szDs (ds ++ [d]) = szD e + 2 + szDs ds + _
    rw [szDs_snoc d ds]
    omega
section
open PySem.Spec PyProof.Rows
variable {X : Cx} {pins : List (Addr × Obj)} {σ : L2.St} {H : Hp} {s : Shared}
theorem int_low {i : Int} (h0 : 0 ≤ i) (h1 : i ≤ 1000002) : i.natAbs.log2 < 1920 := by
  have h2 : i.natAbs < 2 ^ 20 := by
    have : (2 : Nat) ^ 20 = 1048576 := by decide
    omega
  by_cases h : i.natAbs = 0
  · rw [h]
    decide
  · have := (Nat.log2_lt (n := i.natAbs) (k := 20) h).mpr h2
    omega
mutual
theorem reprB_of (prog : Program) (w : World) (I : Inv X pins σ H s) : ∀ (d : Dt) (v : V) (u : Value), IsD H d v → RelV v u → lowD d → szD d ≤ sizeLine → ReprB prog w s.heap (dpt d) (szD d) u
  | .non, v, u, h, r, _, _ => by
    obtain rfl : v = .non := h
    obtain rfl : u = .none := r
    exact .of_is ReprIs.none (by show _ ≤ 4; decide +kernel)
  | .int i, v, u, h, r, g, _ => by
    obtain rfl : v = .int i := h
    obtain ⟨t, rfl⟩ := r
    exact .of_is (ReprIs.int t (int_low g.1 g.2)) (Nat.le_trans (PyProof.Rows.toString_length_le (k := 7) g.1 (by decide) (by have := g.2; omega)) (by show 7 ≤ 9; omega))
  | .str z, v, u, h, r, g, hz => by
    obtain rfl : v = .str z := h
    obtain ⟨t, rfl⟩ := r
    have h1 := StrLaws.reprText_len z g
    exact .of_is (ReprIs.str z t (by have h2 : 10 * z.length + 2 ≤ sizeLine := hz; omega)) h1
  | .tup ds, v, u, h, r, g, hz => by
    obtain ⟨p, vs, rfl, hp, hvs⟩ := h
    obtain rfl : u = .ref p := r
    obtain ⟨its, rv, ⟨o, ho, hcl, n, hd⟩, _⟩ := I.tuple (.of hp)
    have hz' : 7 + szDs ds ≤ sizeLine := hz
    have := ReprB.tuple (d := dpts ds) ho hcl hd (reprAllB_of prog w I ds vs its hvs rv g (by omega))
    rw [Nat.add_comm] at this
    exact this
theorem reprAllB_of (prog : Program) (w : World) (I : Inv X pins σ H s) : ∀ (ds : List Dt) (vs : List V) (us : List Value), IsDs H ds vs → Vals vs us → lowDs ds → szDs ds ≤ sizeLine → ReprAllB prog w s.heap (dpts ds) us (szDs ds)
  | [], vs, us, h, r, _, _ => by
    obtain rfl : vs = [] := h
    cases r
    exact .nil
  | d :: ds, vs, us, h, r, g, hz => by
    obtain ⟨v, vr, rfl, h1, h2⟩ := h
    cases r with
    | cons r1 r2 =>
      have hz' : szD d + 2 + szDs ds ≤ sizeLine := hz
      exact .cons ((reprB_of prog w I d v _ h1 r1 g.1 (by omega)).up (Nat.le_max_left _ _)) ((reprAllB_of prog w I ds vr _ h2 r2 g.2 (by omega)).up (Nat.le_max_right _ _))
end
/-- str(x): a number's, a text's, a tuple's -/
theorem call_strM {k : Nat} (hr : Room k X.A) : CallR X (.type "str") (fun xs H Q => ((∃ i, xs = [.int i] ∧ i.natAbs.log2 < 1920 ∧ Q (.str (toString i)) H) ∨ ∃ a, xs = [.str a] ∧ Q (.str a) H) ∨
    ∃ v ds, xs = [v] ∧ IsD H (.tup ds) v ∧ lowDs ds ∧ dpts ds ≤ 50 ∧ 7 + szDs ds ≤ sizeLine ∧ ∀ m : Str, m.length ≤ 7 + szDs ds → Q (.str m) H) := by
  intro pins s σ H xs us Q I r h
  rcases h with h | ⟨v, ds, rfl, ⟨p, vs, rfl, hp, hvs⟩, g, hd, hz, q⟩
  · exact call_strK pins s σ H xs us Q I r h
  obtain ⟨u, rfl, r1⟩ := vals1 r
  obtain rfl : u = .ref p := r1
  obtain ⟨its, rv, ⟨o, ho, hcl, n, hdt⟩, _⟩ := I.tuple (.of hp)
  have hu := hr.units
  exact str_tupleB (d := dpts ds) ho hcl hdt (fun prog w => reprAllB_of prog w I ds vs its hvs rv g (by omega)) (by omega) hz fun t u tk ht => ⟨.str t, H, I.tok _, ⟨u, rfl⟩, q t ht⟩
end
/-! ### texts of rows -/
theorem app_len (a b : Str) : (a ++ b).length = a.length + b.length := by
  show (a.cps ++ b.cps).size = _
  rw [Array.size_append]
  rfl
def strOf : Dt → Str
  | .str s => s
  | _ => Str.ofString ""
def shownS : Dt → Str
  | .int i => Str.ofString (toString i)
  | .str s => s
  | .tup ds => Txt.join (Str.ofString ".") (ds.map strOf)
  | .non => Str.ofString ""
def ShOk : Dt → Prop
  | .int i => 0 ≤ i ∧ i ≤ 1000002
  | .str s => s.length ≤ 20
  | .tup ds => ds.length ≤ 10 ∧ ∀ d ∈ ds, ∃ s, d = .str s ∧ s.length ≤ 20
  | .non => False
theorem sum_le (c : Nat) : ∀ l : List Nat, (∀ x ∈ l, x ≤ c) → l.sum ≤ c * l.length
  | [], _ => by simp
  | x :: l, h => by
    have h1 := h x (List.mem_cons_self ..)
    have h2 := sum_le c l fun y hy => h y (List.mem_cons_of_mem _ hy)
    simp only [List.sum_cons, List.length_cons, Nat.mul_add]
    omega
theorem joinSz {ys : List Str} {s : Str} (h : ∀ y ∈ ys, y.length ≤ 1000) (hl : ys.length ≤ 100) (hs : s.length ≤ 1) : (ys.map (·.length)).sum + ys.length * s.length ≤ 16777216 := by
  have h1 := sum_le 1000 (ys.map (·.length)) fun x hx => by
    obtain ⟨y, hy, rfl⟩ := List.mem_map.mp hx
    exact h y hy
  rw [List.length_map] at h1
  have h2 : ys.length * s.length ≤ 100 * 1 := Nat.mul_le_mul hl hs
  omega
theorem dot_len : (Str.ofString ".").length = 1 := by decide +kernel
theorem blank_len : (Str.ofString " ").length = 1 := by decide +kernel
theorem num_len {i : Int} (h0 : 0 ≤ i) (h1 : i ≤ 1000002) : (Str.ofString (toString i)).length ≤ 7 := PyProof.Rows.toString_length_le h0 (by decide) (by omega)
theorem num_log {i : Int} (h0 : 0 ≤ i) (h1 : i ≤ 1000002) : i.natAbs.log2 < 1920 := by
  have h2 : i.natAbs < 2 ^ 20 := by
    have : (2 : Nat) ^ 20 = 1048576 := by decide
    omega
  have := (Nat.log2_lt (n := i.natAbs) (k := 20))
  by_cases h : i.natAbs = 0
  · rw [h]
    decide
  · have := (this h).mpr h2
    omega
def partsD (r : Rw) : List Dt := match toldD r with
  | .tup ds => ds
  | _ => []
def isPlain : Rw → Bool
  | .set _ _ _ _ => false
  | .make _ _ _ => false
  | .non _ _ => true
  | .give _ _ => true
  | .take _ _ => true
  | .fill _ _ => true
  | .swap _ _ => true
  | .get _ _ => true
  | .put _ _ => true
  | .has _ _ => false
  | .drop _ => true
  | .lend _ _ _ => true
  | .step _ _ => true
  | .call _ _ _ => false
  | .back _ => true
  | .ask _ => true
  | .tell _ => true
def GoodRw : Rw → Prop
  | .make x r as => x.length ≤ 20 ∧ r.length ≤ 20 ∧ as.length ≤ 10 ∧ ∀ a ∈ as, ShOk (atD a)
  | .call n h gs => (∀ s, n = some s → s.length ≤ 20) ∧ h.length ≤ 20 ∧ gs.length ≤ 10 ∧ ∀ g ∈ gs, ShOk (gvD g)
  | r => ∀ d ∈ partsD r, ShOk d
theorem GoodRw.plain {r : Rw} (h : GoodRw r) (p : isPlain r = true) : ∀ d ∈ partsD r, ShOk d := by
  cases r <;> first | exact h | cases p
theorem told_parts (r : Rw) : toldD r = .tup (partsD r) := by cases r <;> rfl
theorem smallDs_of : ∀ {ds : List Dt}, (∀ d ∈ ds, smallD d) → smallDs ds
  | [], _ => trivial
  | d :: ds, h => ⟨h d (List.mem_cons_self ..), smallDs_of fun e he => h e (List.mem_cons_of_mem _ he)⟩
theorem dpts_of {n : Nat} : ∀ {ds : List Dt}, (∀ d ∈ ds, dpt d ≤ n) → dpts ds ≤ n
  | [], _ => Nat.zero_le _
  | d :: ds, h => by
    have h1 := h d (List.mem_cons_self ..)
    have h2 := dpts_of fun e he => h e (List.mem_cons_of_mem _ he)
    simp only [dpts]
    omega
theorem tup_small {ds : List Dt} {n : Nat} (hl : ds.length ≤ 1000) (h : ∀ d ∈ ds, smallD d ∧ dpt d ≤ n) : smallD (.tup ds) ∧ dpt (.tup ds) ≤ n + 1 := by
  have h2 := dpts_of fun d hd => (h d hd).2
  refine ⟨⟨hl, smallDs_of fun d hd => (h d hd).1⟩, ?_⟩
  simp only [dpt]
  omega
theorem shok_small {d : Dt} (h : ShOk d) : smallD d ∧ dpt d ≤ 1 := by
  cases d with
  | non => exact h.elim
  | int i => exact ⟨trivial, Nat.zero_le _⟩
  | str s => exact ⟨trivial, Nat.zero_le _⟩
  | tup ds =>
    have h1 := h.1
    refine tup_small (by omega) fun d hd => ?_
    obtain ⟨s, rfl, _⟩ := h.2 d hd
    exact ⟨trivial, Nat.le_refl _⟩
theorem up2 {d : Dt} (h : smallD d ∧ dpt d ≤ 1) : smallD d ∧ dpt d ≤ 2 := ⟨h.1, by have := h.2; omega⟩
theorem parts_small {r : Rw} (h : GoodRw r) : ∀ d ∈ partsD r, smallD d ∧ dpt d ≤ 2 := by
  cases r with
  | make x0 x1 as =>
    obtain ⟨g0, g1, g2, g3⟩ := h
    intro d hd
    simp only [partsD, toldD, List.mem_cons, List.not_mem_nil, or_false] at hd
    rcases hd with rfl | rfl | rfl | rfl
    · exact ⟨trivial, Nat.zero_le _⟩
    · exact ⟨trivial, Nat.zero_le _⟩
    · exact ⟨trivial, Nat.zero_le _⟩
    · refine tup_small (by rw [List.length_map]; omega) fun e he => ?_
      obtain ⟨a, ha, rfl⟩ := List.mem_map.mp he
      exact shok_small (g3 a ha)
  | call nm x1 gs =>
    obtain ⟨g0, g1, g2, g3⟩ := h
    intro d hd
    simp only [partsD, toldD, List.mem_cons, List.not_mem_nil, or_false] at hd
    rcases hd with rfl | rfl | rfl | rfl
    · exact ⟨trivial, Nat.zero_le _⟩
    · cases nm <;> exact ⟨trivial, Nat.zero_le _⟩
    · exact ⟨trivial, Nat.zero_le _⟩
    · refine tup_small (by rw [List.length_map]; omega) fun e he => ?_
      obtain ⟨a, ha, rfl⟩ := List.mem_map.mp he
      exact shok_small (g3 a ha)
  | _ => exact fun d hd => up2 (shok_small (h d hd))
theorem told_small {r : Rw} (h : GoodRw r) : dpt (toldD r) < 4 ∧ smallD (toldD r) := by
  have hl : (partsD r).length ≤ 1000 := by cases r <;> simp [partsD, toldD]
  have := tup_small hl (parts_small h)
  rw [told_parts]
  exact ⟨by omega, this.1⟩
/-! ### names, atoms, paths, rows as they are drawn -/
instance (s : Str) : Decidable (lowS s) := inferInstanceAs (Decidable (∀ c ∈ s.cps.toList, c < 16 ^ 8))
theorem lowS_app {a b : Str} (h1 : lowS a) (h2 : lowS b) : lowS (a ++ b) := fun c hc => by
  have e : (a ++ b).cps.toList = a.cps.toList ++ b.cps.toList := by
    show (a.cps ++ b.cps).toList = _
    simp
  rw [e] at hc
  rcases List.mem_append.mp hc with hc | hc
  · exact h1 c hc
  · exact h2 c hc
theorem lowS_one {c : Nat} (h : c < 16 ^ 8) : lowS ⟨#[c]⟩ := fun x hx => by
  have hx : x ∈ [c] := hx
  rw [List.mem_singleton.mp hx]
  exact h
/-- the kept words -/
def keptL : List Str := ["record", "helper", "gives", "end", "if", "else", "fi", "while", "od", "set", "has", "make", "none", "give", "take", "fill", "swap", "get", "put", "drop", "look", "hand", "step", "call", "to", "back", "ask", "tell", "num"].map Str.ofString
def letS (s : Str) : Prop := ∀ c ∈ s.cps.toList, 97 ≤ c ∧ c ≤ 122
instance (s : Str) : Decidable (letS s) := inferInstanceAs (Decidable (∀ c ∈ s.cps.toList, 97 ≤ c ∧ c ≤ 122))
theorem letS_app {a b : Str} (h1 : letS a) (h2 : letS b) : letS (a ++ b) := fun c hc => by
  have e : (a ++ b).cps.toList = a.cps.toList ++ b.cps.toList := by
    show (a.cps ++ b.cps).toList = _
    simp
  rw [e] at hc
  rcases List.mem_append.mp hc with hc | hc
  · exact h1 c hc
  · exact h2 c hc
theorem letS_one {c : Nat} (h : 97 ≤ c ∧ c ≤ 122) : letS ⟨#[c]⟩ := fun x hx => by
  have hx : x ∈ [c] := hx
  rw [List.mem_singleton.mp hx]
  exact h
theorem letS.low {s : Str} (h : letS s) : lowS s := fun c hc => by have := h c hc; omega
def nameOk (s : Str) : Prop := letS s ∧ 1 ≤ s.length ∧ s.length ≤ 8 ∧ s ∉ keptL
instance (s : Str) : Decidable (nameOk s) := inferInstanceAs (Decidable (letS s ∧ 1 ≤ s.length ∧ s.length ≤ 8 ∧ s ∉ keptL))
def atOk : At → Prop
  | .num n => n ≤ 1000002
  | .nam s => nameOk s
def pathOk (p : List Str) : Prop := 1 ≤ p.length ∧ p.length ≤ 4 ∧ ∀ s ∈ p, nameOk s
def gvOk : Gv → Prop
  | .at a => atOk a
  | .path p => pathOk p ∧ 2 ≤ p.length
def signL : List Str := ["+", "-", "*", "<", "="].map Str.ofString
def GoodN : Rw → Prop
  | .set x a g b => nameOk x ∧ atOk a ∧ ((g = Str.ofString "" ∧ b = .num 0) ∨ (g ∈ signL ∧ atOk b))
  | .make x r as => nameOk x ∧ nameOk r ∧ 1 ≤ as.length ∧ as.length ≤ 4 ∧ ∀ a ∈ as, atOk a ∨ a = .nam (Str.ofString "none")
  | .non x y => nameOk x ∧ nameOk y
  | .give x y => nameOk x ∧ nameOk y
  | .step x y => nameOk x ∧ nameOk y
  | .take x p => nameOk x ∧ pathOk p
  | .swap x p => nameOk x ∧ pathOk p
  | .get x p => nameOk x ∧ pathOk p
  | .has x p => nameOk x ∧ pathOk p
  | .lend _ x p => nameOk x ∧ pathOk p
  | .fill p x => pathOk p ∧ nameOk x
  | .put p a => pathOk p ∧ atOk a
  | .drop x => nameOk x
  | .ask x => nameOk x
  | .call n h gs => (∀ s, n = some s → nameOk s) ∧ nameOk h ∧ gs.length ≤ 6 ∧ ∀ g ∈ gs, gvOk g
  | .back a => atOk a
  | .tell a => atOk a
theorem nameOk.sh {s : Str} (h : nameOk s) : s.length ≤ 20 ∧ lowS s := ⟨by have := h.2.2.1; omega, h.1.low⟩
def ShL : Dt → Prop
  | .int i => 0 ≤ i ∧ i ≤ 1000002
  | .str s => s.length ≤ 20 ∧ lowS s
  | .tup ds => ds.length ≤ 10 ∧ ∀ d ∈ ds, ∃ s, d = .str s ∧ s.length ≤ 20 ∧ lowS s
  | .non => False
def GoodL : Rw → Prop
  | .make x r as => (x.length ≤ 20 ∧ lowS x) ∧ (r.length ≤ 20 ∧ lowS r) ∧ as.length ≤ 10 ∧ ∀ a ∈ as, ShL (atD a)
  | .call n h gs => (∀ s, n = some s → s.length ≤ 20 ∧ lowS s) ∧ (h.length ≤ 20 ∧ lowS h) ∧ gs.length ≤ 10 ∧ ∀ g ∈ gs, ShL (gvD g)
  | r => ∀ d ∈ partsD r, ShL d
theorem ShL.ok {d : Dt} (h : ShL d) : ShOk d := by
  cases d with
  | non => exact h
  | int i => exact h
  | str s => exact h.1
  | tup ds => exact ⟨h.1, fun d hd => by
      obtain ⟨s, e, l, _⟩ := h.2 d hd
      exact ⟨s, e, l⟩⟩
theorem lowDs_of : ∀ {ds : List Dt}, (∀ d ∈ ds, lowD d) → lowDs ds
  | [], _ => trivial
  | d :: ds, h => ⟨h d (List.mem_cons_self ..), lowDs_of fun e he => h e (List.mem_cons_of_mem _ he)⟩
theorem szDs_le {c : Nat} : ∀ {ds : List Dt}, (∀ d ∈ ds, szD d ≤ c) → szDs ds ≤ (c + 2) * ds.length
  | [], _ => Nat.zero_le _
  | d :: ds, h => by
    have h1 := h d (List.mem_cons_self ..)
    have h2 := szDs_le fun e he => h e (List.mem_cons_of_mem _ he)
    show szD d + 2 + szDs ds ≤ (c + 2) * (ds.length + 1)
    rw [Nat.mul_add]
    omega
theorem szDs_le' {c n : Nat} {ds : List Dt} (h : ∀ d ∈ ds, szD d ≤ c) (hl : ds.length ≤ n) : szDs ds ≤ (c + 2) * n := Nat.le_trans (szDs_le h) (Nat.mul_le_mul (Nat.le_refl _) hl)
theorem ShL.sz {d : Dt} (h : ShL d) : lowD d ∧ szD d ≤ 2100 := by
  cases d with
  | non => exact h.elim
  | int i => exact ⟨h, by show 9 ≤ 2100; omega⟩
  | str s => exact ⟨h.2, by show 10 * s.length + 2 ≤ 2100; have := h.1; omega⟩
  | tup ds =>
    refine ⟨lowDs_of fun d hd => ?_, ?_⟩
    · obtain ⟨s, rfl, _, l⟩ := h.2 d hd
      exact l
    · have := szDs_le' (c := 202) (n := 10) (fun d hd => by
        obtain ⟨s, rfl, l, _⟩ := h.2 d hd
        show 10 * s.length + 2 ≤ 202
        omega) h.1
      show 7 + szDs ds ≤ 2100
      omega
theorem many_sz {ds : List Dt} (h : ∀ d ∈ ds, ShL d) (hl : ds.length ≤ 10) : lowD (.tup ds) ∧ szD (.tup ds) ≤ 22000 := by
  have := szDs_le' (c := 2100) (n := 10) (fun d hd => (h d hd).sz.2) hl
  exact ⟨lowDs_of fun d hd => (h d hd).sz.1, by show 7 + szDs ds ≤ 22000; omega⟩
theorem GoodL.good {r : Rw} (h : GoodL r) : GoodRw r := by
  cases r with
  | make x0 x1 as => exact ⟨h.1.1, h.2.1.1, h.2.2.1, fun a ha => (h.2.2.2 a ha).ok⟩
  | call n x1 gs => exact ⟨fun s hs => (h.1 s hs).1, h.2.1.1, h.2.2.1, fun g hg => (h.2.2.2 g hg).ok⟩
  | _ => exact fun d hd => ShL.ok (h d hd)
theorem GoodL.low {r : Rw} (h : GoodL r) : lowD (toldD r) ∧ szD (toldD r) ≤ 30000 := by
  cases r with
  | make x0 x1 as =>
    obtain ⟨g0, g1, g2, g3⟩ := h
    have hm := many_sz (ds := as.map atD) (fun d hd => by
      obtain ⟨a, ha, rfl⟩ := List.mem_map.mp hd
      exact g3 a ha) (by rw [List.length_map]; exact g2)
    have hw : lowD (.str (Str.ofString "make")) ∧ szD (.str (Str.ofString "make")) ≤ 100 := ⟨by show lowS _; decide +kernel, by show 10 * _ + 2 ≤ 100; decide +kernel⟩
    refine ⟨⟨hw.1, g0.2, g1.2, hm.1, trivial⟩, ?_⟩
    show 7 + (szD (.str (Str.ofString "make")) + 2 + (10 * x0.length + 2 + 2 + (10 * x1.length + 2 + 2 + (szD (.tup (as.map atD)) + 2 + 0)))) ≤ 30000
    omega
  | call nm x1 gs =>
    obtain ⟨g0, g1, g2, g3⟩ := h
    have hm := many_sz (ds := gs.map gvD) (fun d hd => by
      obtain ⟨a, ha, rfl⟩ := List.mem_map.mp hd
      exact g3 a ha) (by rw [List.length_map]; exact g2)
    have hw : lowD (.str (Str.ofString "call")) ∧ szD (.str (Str.ofString "call")) ≤ 100 := ⟨by show lowS _; decide +kernel, by show 10 * _ + 2 ≤ 100; decide +kernel⟩
    have hn : lowD (optD nm) ∧ szD (optD nm) ≤ 300 := by
      cases nm with
      | none => exact ⟨trivial, by show 4 ≤ 300; omega⟩
      | some z => exact ⟨(g0 z rfl).2, by show 10 * z.length + 2 ≤ 300; have := (g0 z rfl).1; omega⟩
    refine ⟨⟨hw.1, hn.1, g1.2, hm.1, trivial⟩, ?_⟩
    show 7 + (szD (.str (Str.ofString "call")) + 2 + (szD (optD nm) + 2 + (10 * x1.length + 2 + 2 + (szD (.tup (gs.map gvD)) + 2 + 0)))) ≤ 30000
    omega
  | _ =>
    rw [told_parts]
    have hm := many_sz h (by simp [partsD, toldD])
    exact ⟨hm.1, by omega⟩
theorem nameOk.shl {s : Str} (h : nameOk s) : ShL (.str s) := h.sh
theorem atOk.shl {a : At} (h : atOk a) : ShL (atD a) := by
  cases a with
  | num n => exact ⟨by omega, by have h : n ≤ 1000002 := h; omega⟩
  | nam s => exact nameOk.sh h
theorem pathOk.shl {p : List Str} (h : pathOk p) : ShL (pathD p) := ⟨by rw [List.length_map]; have := h.2.1; omega, fun d hd => by
  obtain ⟨s, hs, rfl⟩ := List.mem_map.mp hd
  exact ⟨s, rfl, (h.2.2 s hs).sh⟩⟩
theorem gvOk.shl {g : Gv} (h : gvOk g) : ShL (gvD g) := by
  cases g with
  | «at» a => exact atOk.shl h
  | path p => exact pathOk.shl h.1
theorem word_sh {s : Str} (h : decide (s.length ≤ 20 ∧ lowS s) = true) : ShL (.str s) := show s.length ≤ 20 ∧ lowS s from of_decide_eq_true h
theorem mem1 {P : Dt → Prop} {a : Dt} (h1 : P a) : ∀ z ∈ [a], P z := fun z hz => by rw [List.mem_singleton.mp hz]; exact h1
theorem memc {P : Dt → Prop} {a : Dt} {l : List Dt} (h1 : P a) (h2 : ∀ z ∈ l, P z) : ∀ z ∈ a :: l, P z := fun z hz => by
  rcases List.mem_cons.mp hz with rfl | hz
  · exact h1
  · exact h2 z hz
theorem sign_sh {g : Str} (h : g ∈ signL) : ShL (.str g) := by
  have : ∀ g ∈ signL, g.length ≤ 20 ∧ lowS g := by decide +kernel
  exact this g h
theorem GoodN.goodL {r : Rw} (h : GoodN r) : GoodL r := by
  have k : ∀ {s : Str}, decide (s.length ≤ 20 ∧ lowS s) = true → ShL (.str s) := word_sh
  cases r with
  | set x a g b =>
    refine memc (k (by decide +kernel)) (memc h.1.shl (memc h.2.1.shl ?_))
    rcases h.2.2 with ⟨rfl, rfl⟩ | ⟨hg, hb⟩
    · exact memc (k (by decide +kernel)) (mem1 ⟨by decide, by decide⟩)
    · exact memc (sign_sh hg) (mem1 hb.shl)
  | make x r as => exact ⟨h.1.sh, h.2.1.sh, by have := h.2.2.2.1; omega, fun a ha => by
      rcases h.2.2.2.2 a ha with q | rfl
      · exact q.shl
      · exact k (s := Str.ofString "none") (by decide +kernel)⟩
  | call n h2 gs => exact ⟨fun s hs => (h.1 s hs).sh, h.2.1.sh, by have := h.2.2.1; omega, fun g hg => (h.2.2.2 g hg).shl⟩
  | lend b x p => cases b <;> exact memc (k (by decide +kernel)) (memc h.1.shl (mem1 h.2.shl))
  | fill p x => exact memc (k (by decide +kernel)) (memc h.1.shl (mem1 h.2.shl))
  | put p a => exact memc (k (by decide +kernel)) (memc h.1.shl (mem1 h.2.shl))
  | drop x => exact memc (k (by decide +kernel)) (mem1 (nameOk.shl h))
  | ask x => exact memc (k (by decide +kernel)) (mem1 (nameOk.shl h))
  | back a => exact memc (k (by decide +kernel)) (mem1 (atOk.shl h))
  | tell a => exact memc (k (by decide +kernel)) (mem1 (atOk.shl h))
  | _ => exact memc (k (by decide +kernel)) (memc h.1.shl (mem1 h.2.shl))
section
variable {P : Program} {w : World} {K : PySem.W.Frag} {mg : Str → Option Value} {base : Heap}
def spKept : Sp := fun vs H Q _ => vs = [] ∧ ∀ p (ys : List Str) H', ys = keptL → New p (.lst (ys.map V.str)) H H' → Q (.ref p) H'
theorem ok_l_kept (T : Tx K mg) : FnOk P w K mg base CX0 1 T.f_l_kept T.d_l_kept [] spKept := by
  refine T.F_l_kept.ok sc_l_kept (fun vs H Q E h => ?_) (fun cdv A outer s H vs Q E hr h => ?_)
  · obtain ⟨rfl, _⟩ := h
    rfl
  · obtain ⟨rfl, q⟩ := h
    refine ⟨_, (pss_cons (ps_set (i := 0) sc_l_kept.nd rfl (Or.inl rfl) pe_str)
      (pss_cons (ps_set (i := 0) sc_l_kept.nd rfl (Or.inl rfl) (pe_op op_add_str (pv 0) pe_str))
      (pss_one (ps_ret (pe_split (pv 0) pe_str))))), ?_⟩
    walk_at "sy"
    refine w_addS (by decide +kernel) ?_
    walk_at "sy"
    refine ⟨_, _, rfl, rfl, by decide +kernel, by decide +kernel, ?_⟩
    intro p hp
    exact q _ _ _ (by decide +kernel) (New.mk' hp)
/-- what a drawer answers: R of the heap and the value; c draws at most -/
def spGen (K : PySem.W.Frag) (c : Nat) (R : Hp → V → Prop) : Sp := fun vs H Q _ => ∃ (a tp : Addr) (ns : List Int) (k : Nat), vs = [.ref a, .ref tp] ∧ Stays K H tp a (ns.map V.int) ∧ H tp = some (.lst [.int (k : Int)]) ∧ k + c ≤ 400000 ∧
  ∀ (H' : Hp) (v : V) (k' : Nat), R H' v → k' ≤ k + c → H' tp = some (.lst [.int (k' : Int)]) → SameBut tp H H' → Q v H'
theorem letter {n : Nat} (h : n < 26) : ∃ c, atI (Str.ofString "abcdefghijklmnopqrstuvwxyz").cps.toList (n : Int) = some c ∧ 97 ≤ c ∧ c ≤ 122 := by
  have low : ∀ c ∈ (Str.ofString "abcdefghijklmnopqrstuvwxyz").cps.toList, 97 ≤ c ∧ c ≤ 122 := by decide +kernel
  have hl : (Str.ofString "abcdefghijklmnopqrstuvwxyz").cps.toList.length = 26 := by decide +kernel
  exact ⟨_, atI_nat (List.getElem?_eq_getElem (by omega)), low _ (List.getElem_mem _)⟩
theorem flat_strs (ys : List Str) : (ys.map V.str).all flatV = true := by
  rw [List.all_map]
  exact List.all_eq_true.mpr fun _ _ => rfl
theorem inV_str (s : Str) : ∀ ys : List Str, inV (.str s) (ys.map V.str) = decide (s ∈ ys)
  | [] => rfl
  | y :: ys => by
    have ih := inV_str s ys
    unfold inV at ih ⊢
    rw [List.map_cons, List.any_cons, ih]
    show (decide (y = s) || _) = _
    by_cases e : y = s
    · subst e
      simp
    · simp [e, Ne.symm e]
theorem kept_q : ∀ w ∈ keptL, nameOk (w ++ Str.ofString "q") := by decide +kernel
def rName (_ : Hp) (v : V) : Prop := ∃ s : Str, v = .str s ∧ nameOk s
theorem sameB {H Hx Hy : Hp} {tp : Addr} (s : Same H Hx) (b : SameBut tp Hx Hy) (f : H tp = none) : Same H Hy := fun p o e => b _ _ (s _ _ e) (ne_of_none e f)
def spWord (K : PySem.W.Frag) : Sp := fun vs H Q _ => ∃ (a : Addr) (ns : List Int) (n : Nat), vs = [.ref a, .int (n : Int)] ∧ n ≤ 8 ∧ SqL K H a (ns.map V.int) ∧ ∀ (s : Str) H', nameOk s → Same H H' → Q (.str s) H'
theorem ok_l_word (T : Tx K mg) : FnOk P w K mg base CX0 2 T.f_l_word T.d_l_word ["_law_script", "_law_number_here"] (spWord K) := by
  refine T.F_l_word.ok sc_l_word (fun vs H Q E h => ?_) (fun cdv A outer s H vs Q E hr h => ?_)
  · obtain ⟨a, ns, n, rfl, _⟩ := h
    rfl
  · obtain ⟨a, ns, n0, rfl, hn, hS, q⟩ := h
    refine ⟨_, (pss_cons (ps_set (i := 2) sc_l_word.nd rfl (Or.inl rfl) (pe_lst (pa_cons (pe_op op_add pe_int (pe_op op_mul pe_int (pv 1))) pa_nil)))
      (pss_cons (ps_set (i := 3) sc_l_word.nd rfl (Or.inl rfl) pe_str)
      (pss_cons (ps_for PassesOwn.never rfl (pi_range1 rfl T.n_range (pa_cons (pe_op op_add pe_int (pe_call (ok_l_draw T) (hr.mono (by omega)) rfl T.m_l_draw T.F_l_draw.kp T.B_l_draw .nil pass0 (pa_cons (pv 0) (pa_cons (pv 2) (pa_cons pe_int pa_nil))))) pa_nil)) (pg_name (i := 4) sc_l_word.nd rfl (Or.inl rfl))
        (pss_one (ps_set (i := 3) sc_l_word.nd rfl (Or.inl rfl) (pe_op op_add_str (pv 3) (pe_ix ix_str pe_str (pe_call (ok_l_draw T) (hr.mono (by omega)) rfl T.m_l_draw T.F_l_draw.kp T.B_l_draw .nil pass0 (pa_cons (pv 0) (pa_cons (pv 2) (pa_cons pe_int pa_nil)))) (fun _ _ => rfl))))))
      (pss_cons (ps_if (pt_cmpR (in_seqK (K := K) rfl) (pv 3) (pe_call0 (ok_l_kept T) (hr.mono (by omega)) rfl T.m_l_kept T.F_l_kept.kp T.B_l_kept .nil pass0) (by rfl))
        (pss_one (ps_set (i := 3) sc_l_word.nd rfl (Or.inl rfl) (pe_op op_add_str (pv 3) pe_str)))
        pss_nil)
      (pss_one (ps_ret (pv 3))))))), ?_⟩
    walk_at "sy"
    rename_i tp H1 n1
    have e0 : (1000 : Int) + 20 * (n0 : Int) = ((1000 + 20 * n0 : Nat) : Int) := by omega
    rw [e0] at n1
    have fT := n1.free
    have st : ∀ {Hx : Hp}, Same H Hx → Stays K Hx tp a (ns.map V.int) := fun s => Stays.of hS s fT
    refine use_draw (st n1.same) n1.at_ (by omega) (by decide) (fun H2 m c2 m0 m1 => ?_)
    have s2 := sameB n1.same c2.but fT
    walk_at "sy"
    refine k_forR (fun i σ Hx => ∃ (s : Str) (v4 : Option V), σ = [some (.ref a), some (.int (n0 : Int)), some (.ref tp), some (.str s), v4] ∧ (s.length = i ∧ letS s) ∧ Hx tp = some (.lst [.int ((1000 + 20 * n0 + 1 + i : Nat) : Int)]) ∧ Same H Hx) ⟨_, _, rfl, ⟨rfl, by decide +kernel⟩, c2.at_, s2⟩ ?_ ?_
    · rintro i σ Hx hi ⟨s, v4, rfl, hs, tx, sx⟩
      have hi8 : i < 8 := by omega
      walk_at "sy"
      refine use_draw (st sx) tx (by omega) (by decide) (fun Hy l cy l0 l1 => ?_)
      walk_at "sy"
      obtain ⟨n, rfl⟩ : ∃ n : Nat, l = n := Int.eq_ofNat_of_zero_le l0
      obtain ⟨c, hc, lc⟩ := letter (n := n) (by omega)
      refine ⟨_, _, c, rfl, rfl, by decide +kernel, hc, ?_⟩
      have ec : (⟨#[c]⟩ : Str).length = 1 := rfl
      refine w_addS (by rw [ec]; have := sizeLine_eq; omega) ?_
      walk_at "sy"
      exact ⟨s ++ ⟨#[c]⟩, _, rfl, ⟨by rw [app_len, ec]; omega, letS_app hs.2 (letS_one lc)⟩, cy.at_, sameB sx cy.but fT⟩
    · rintro σ Hx ⟨s, v4, rfl, hs, tx, sx⟩
      have hm : (1 + m).toNat ≤ 8 := by omega
      walk_at "sy"
      refine ⟨rfl, fun pk ys H3 hl n3 => ?_⟩
      refine ⟨pk, ys.map V.str, rfl, .inl (SqL.of n3.at_), rfl, flat_strs ys, ?_⟩
      subst hl
      rw [inV_str]
      generalize hbb : decide (s ∈ keptL) = bb
      cases bb
      · walk_at "sy"
        exact q _ _ ⟨hs.2, by omega, by omega, of_decide_eq_false hbb⟩ (sx.trans n3.same)
      · walk_at "sy"
        have eq : (Str.ofString "q").length = 1 := by decide +kernel
        refine w_addS (by rw [eq]; have := sizeLine_eq; omega) ?_
        walk_at "sy"
        exact q _ _ (kept_q s (of_decide_eq_true hbb)) (sx.trans n3.same)
theorem ok_l_name (T : Tx K mg) : FnOk P w K mg base CX0 3 T.f_l_name T.d_l_name ["_law_script", "_law_tape"] (spGen K 10 rName) := by
  refine T.F_l_name.ok sc_l_name (fun vs H Q E h => ?_) (fun cdv A outer s H vs Q E hr h => ?_)
  · obtain ⟨a, tp, ns, k, rfl, _⟩ := h
    rfl
  · obtain ⟨a, tp, ns, k, rfl, hS, htp, hk, q⟩ := h
    refine ⟨_, (pss_cons (ps_set (i := 2) sc_l_name.nd rfl (Or.inl rfl) (pe_call (ok_l_draw T) (hr.mono (by omega)) rfl T.m_l_draw T.F_l_draw.kp T.B_l_draw .nil pass0 (pa_cons (pv 0) (pa_cons (pv 1) (pa_cons pe_int pa_nil)))))
      (pss_cons (ps_if (pt_cmpR op_lt (pv 2) pe_int (nomark _))
        (pss_one (ps_ret (pe_ix (ix_listK (K := K) rfl) (pe_lst (pa_cons pe_str (pa_cons pe_str (pa_cons pe_str (pa_cons pe_str (pa_cons pe_str (pa_cons pe_str (pa_cons pe_str (pa_cons pe_str pa_nil))))))))) (pv 2) (fun _ _ => rfl))))
        pss_nil)
      (pss_one (ps_ret (pe_call (ok_l_word T) (hr.mono (by omega)) rfl T.m_l_word T.F_l_word.kp T.B_l_word .nil pass0 (pa_cons (pv 0) (pa_cons (pe_op op_sub (pv 2) pe_int) pa_nil))))))), ?_⟩
    walk_at "sy"
    refine use_draw hS htp (by omega) (by decide) (fun H1 d c1 h0 h1 => ?_)
    have hS1 := hS.but c1.but
    walk_at "sy"
    by_cases e0 : d < 8
    · walk_at "sy"
      rename_i p2 H2 n2
      have g : d = 0 ∨ d = 1 ∨ d = 2 ∨ d = 3 ∨ d = 4 ∨ d = 5 ∨ d = 6 ∨ d = 7 := by omega
      rcases g with rfl | rfl | rfl | rfl | rfl | rfl | rfl | rfl <;> (walk_at "sy"; exact q _ _ (k + 1) ⟨_, rfl, by decide +kernel⟩ (by omega) (by walk_at "look") (butStep n2.same c1.but))
    · walk_at "sy"
      obtain ⟨n, hn⟩ : ∃ n : Nat, d - 8 = n := Int.eq_ofNat_of_zero_le (by omega)
      refine ⟨a, ns, n, by rw [hn]; rfl, by omega, hS1.now, fun s H2 hs s2 => ?_⟩
      walk_at "sy"
      exact q _ _ (k + 1) ⟨s, rfl, hs⟩ (by omega) (s2 _ _ c1.at_) (butStep s2 c1.but)
def rNum (_ : Hp) (v : V) : Prop := ∃ n : Nat, v = .int (n : Int) ∧ n ≤ 1000002
theorem ok_l_number (T : Tx K mg) : FnOk P w K mg base CX0 2 T.f_l_number T.d_l_number ["_law_script", "_law_tape"] (spGen K 3 rNum) := by
  refine T.F_l_number.ok sc_l_number (fun vs H Q E h => ?_) (fun cdv A outer s H vs Q E hr h => ?_)
  · obtain ⟨a, tp, ns, k, rfl, _⟩ := h
    rfl
  · obtain ⟨a, tp, ns, k, rfl, hS, htp, hk, q⟩ := h
    refine ⟨_, (pss_one (ps_ret (pe_ix (ix_listK (K := K) rfl) (pe_lst (pa_cons pe_int (pa_cons pe_int (pa_cons pe_int (pa_cons (pe_call (ok_l_draw T) (hr.mono (by omega)) rfl T.m_l_draw T.F_l_draw.kp T.B_l_draw .nil pass0 (pa_cons (pv 0) (pa_cons (pv 1) (pa_cons pe_int pa_nil)))) (pa_cons (pe_call (ok_l_draw T) (hr.mono (by omega)) rfl T.m_l_draw T.F_l_draw.kp T.B_l_draw .nil pass0 (pa_cons (pv 0) (pa_cons (pv 1) (pa_cons pe_int pa_nil)))) pa_nil)))))) (pe_call (ok_l_draw T) (hr.mono (by omega)) rfl T.m_l_draw T.F_l_draw.kp T.B_l_draw .nil pass0 (pa_cons (pv 0) (pa_cons (pv 1) (pa_cons pe_int pa_nil)))) (fun _ _ => rfl)))), ?_⟩
    walk_at "sy"
    refine use_draw hS htp (by omega) (by decide) (fun H1 d1 c1 l1 u1 => ?_)
    have hS1 := hS.but c1.but
    walk_at "sy"
    refine use_draw hS1 c1.at_ (by omega) (by decide) (fun H2 d2 c2 l2 u2 => ?_)
    have hS2 := hS1.but c2.but
    obtain ⟨n1, rfl⟩ : ∃ n : Nat, d1 = n := Int.eq_ofNat_of_zero_le l1
    obtain ⟨n2, rfl⟩ : ∃ n : Nat, d2 = n := Int.eq_ofNat_of_zero_le l2
    walk_at "sy"
    rename_i p3 H3 n3
    have b3 := butStep n3.same (c2.butStep c1.but)
    refine use_draw (hS2.but (fun x y e _ => n3.same _ _ e)) (n3.same _ _ c2.at_) (by omega) (by decide) (fun H4 d c4 l4 u4 => ?_)
    have b4 := c4.butStep b3
    have g : d = 0 ∨ d = 1 ∨ d = 2 ∨ d = 3 ∨ d = 4 := by omega
    rcases g with rfl | rfl | rfl | rfl | rfl
    · walk_at "sy"
      exact q _ _ (k + 3) ⟨0, rfl, by omega⟩ (by omega) c4.at_ b4
    · walk_at "sy"
      exact q _ _ (k + 3) ⟨1, rfl, by omega⟩ (by omega) c4.at_ b4
    · walk_at "sy"
      exact q _ _ (k + 3) ⟨1000002, rfl, by omega⟩ (by omega) c4.at_ b4
    · walk_at "sy"
      exact q _ _ (k + 3) ⟨n1, rfl, by omega⟩ (by omega) c4.at_ b4
    · walk_at "sy"
      exact q _ _ (k + 3) ⟨n2, rfl, by omega⟩ (by omega) c4.at_ b4
/-- an atom: a number or a name -/
def rAtom (H : Hp) (v : V) : Prop := ∃ a : At, IsD H (atD a) v ∧ atOk a
theorem ok_l_atom (T : Tx K mg) : FnOk P w K mg base CX0 4 T.f_l_atom T.d_l_atom ["_law_script", "_law_tape"] (spGen K 20 rAtom) := by
  refine T.F_l_atom.ok sc_l_atom (fun vs H Q E h => ?_) (fun cdv A outer s H vs Q E hr h => ?_)
  · obtain ⟨a, tp, ns, k, rfl, _⟩ := h
    rfl
  · obtain ⟨a, tp, ns, k, rfl, hS, htp, hk, q⟩ := h
    refine ⟨_, (pss_cons (ps_if (pt_cmpR op_eq (pe_call (ok_l_draw T) (hr.mono (by omega)) rfl T.m_l_draw T.F_l_draw.kp T.B_l_draw .nil pass0 (pa_cons (pv 0) (pa_cons (pv 1) (pa_cons pe_int pa_nil)))) pe_int (nomark _))
        (pss_one (ps_ret (pe_call (ok_l_number T) (hr.mono (by omega)) rfl T.m_l_number T.F_l_number.kp T.B_l_number .nil pass0 (pa_cons (pv 0) (pa_cons (pv 1) pa_nil)))))
        pss_nil)
      (pss_one (ps_ret (pe_call (ok_l_name T) (hr.mono (by omega)) rfl T.m_l_name T.F_l_name.kp T.B_l_name .nil pass0 (pa_cons (pv 0) (pa_cons (pv 1) pa_nil)))))), ?_⟩
    walk_at "sy"
    refine use_draw hS htp (by omega) (by decide) (fun H1 d c1 l1 u1 => ?_)
    have hS1 := hS.but c1.but
    walk_at "sy"
    by_cases e0 : d = 0
    · walk_at "sy"
      refine ⟨a, tp, ns, k + 1, rfl, hS1, c1.at_, (by omega : k + 1 + _ ≤ 400000), fun H2 v k2 hv hk2 t2 b2 => ?_⟩
      obtain ⟨n, rfl, hn⟩ := hv
      walk_at "sy"
      exact q _ _ k2 ⟨.num n, rfl, hn⟩ (by omega) t2 (fun x y e ne => b2 _ _ (c1.but _ _ e ne) ne)
    · walk_at "sy"
      refine ⟨a, tp, ns, k + 1, rfl, hS1, c1.at_, (by omega : k + 1 + _ ≤ 400000), fun H2 v k2 hv hk2 t2 b2 => ?_⟩
      obtain ⟨s, rfl, hs⟩ := hv
      walk_at "sy"
      exact q _ _ k2 ⟨.nam s, rfl, hs⟩ (by omega) t2 (fun x y e ne => b2 _ _ (c1.but _ _ e ne) ne)
theorem isds_strs {H : Hp} : ∀ p : List Str, IsDs H (p.map Dt.str) (p.map V.str)
  | [] => rfl
  | s :: r => ⟨_, _, rfl, rfl, isds_strs r⟩
/-- a path: up to four names -/
def rPath (H : Hp) (v : V) : Prop := ∃ p : List Str, IsD H (pathD p) v ∧ pathOk p
theorem ok_l_path (T : Tx K mg) : FnOk P w K mg base CX0 4 T.f_l_path T.d_l_path ["_law_script", "_law_tape"] (spGen K 41 rPath) := by
  refine T.F_l_path.ok sc_l_path (fun vs H Q E h => ?_) (fun cdv A outer s H vs Q E hr h => ?_)
  · obtain ⟨a, tp, ns, k, rfl, _⟩ := h
    rfl
  · obtain ⟨a, tp, ns, k, rfl, hS, htp, hk, q⟩ := h
    refine ⟨_, (pss_one (ps_ret (pe_callTy (tuple_ofK (K := K) rfl) (by rfl) T.n_tuple PyProof.Rows.boot_tuple (pa_cons (pe_lc (own := [("_law_k", 2)]) (g := gName 2) (tt := tYes) rfl sc_l_path.nd (pi_range1 rfl T.n_range (pa_cons (pe_op op_add pe_int (pe_call (ok_l_draw T) (hr.mono (by omega)) rfl T.m_l_draw T.F_l_draw.kp T.B_l_draw .nil pass0 (pa_cons (pv 0) (pa_cons (pv 1) (pa_cons pe_int pa_nil))))) pa_nil)) (blkOk_by (own := [("_law_k", 2)]) (N := ["_law_script", "_law_tape", "_law_k"]) (sc := defScope s_l_path) (by decide +kernel)) (fun _ _ _ _ _ => pg_name (i := 2) sc_l_path.nd rfl (Or.inl rfl)) (fun _ _ _ _ _ => pts_nil) (fun _ _ _ _ _ => (pe_call (ok_l_name T) (hr.mono (by omega)) rfl T.m_l_name T.F_l_name.kp T.B_l_name .nil pass0 (pa_cons (pv 0) (pa_cons (pv 1) pa_nil))))) pa_nil)))), ?_⟩
    walk_at "sy"
    refine use_draw hS htp (by omega) (by decide) (fun H1 d c1 l1 u1 => ?_)
    have hS1 := hS.but c1.but
    have t1 := c1.at_
    walk_at "sy"
    refine k_lcR (fun D i Hx => ∃ (k2 : Nat) (p : List Str), Hx D = some (.lst (p.map V.str)) ∧ p.length = i ∧ (∀ s ∈ p, nameOk s) ∧ k2 ≤ k + 1 + 10 * i ∧ Hx tp = some (.lst [.int (k2 : Int)]) ∧ SameBut tp H1 Hx) (fun D Hx n => ⟨k + 1, [], n.at_, rfl, fun _ h => (by cases h), by omega, n.same _ _ t1, fun x y e _ => n.same _ _ e⟩) ?_ ?_
    · rintro D hD i Hx hi ⟨k2, p, hDx, rfl, hp, hk2, tx, bx⟩
      have hi4 : p.length < 4 := by omega
      walk_at "sy"
      refine ⟨a, tp, ns, k2, rfl, hS1.but bx, tx, (by omega : k2 + _ ≤ 400000), fun H2 v k3 hv hk3 t3 b3 => ?_⟩
      obtain ⟨s, rfl, hs⟩ := hv
      have ne : D ≠ tp := fun e => by
        rw [e, t1] at hD
        cases hD
      have hD2 := b3 _ _ hDx ne
      walk_at "sy"
      rename_i H4 c4
      refine ⟨k3, p ++ [s], by rw [List.map_append]; exact c4.at_, by simp, fun z hz => ?_, by omega, c4.but _ _ t3 (fun e => ne e.symm), fun x y e nx => ?_⟩
      · rcases List.mem_append.mp hz with hz | hz
        · exact hp z hz
        · obtain rfl : z = s := by simpa using hz
          exact hs
      · exact c4.but _ _ (b3 _ _ (bx _ _ e nx) nx) (fun h => by rw [h, hD] at e; cases e)
    · rintro D hD Hx ⟨k2, p, hDx, hpl, hp, hk2, tx, bx⟩
      walk_at "sy"
      rename_i l hl H4 n4
      exact q _ _ k2 ⟨p, ⟨l, p.map V.str, rfl, n4.at_, isds_strs p⟩, ⟨by omega, by omega, hp⟩⟩ (by omega) (n4.same _ _ tx) (fun x y e ne => n4.same _ _ (bx _ _ (c1.but _ _ e ne) ne))
theorem SameBut.step {p : Addr} {H H' H2 : Hp} (a : SameBut p H H') (b : SameBut p H' H2) : SameBut p H H2 := fun x y e ne => b _ _ (a _ _ e ne) ne
/-- a given thing: an atom or a path -/
def rGiven (H : Hp) (v : V) : Prop := ∃ g : Gv, IsD H (gvD g) v ∧ gvOk g
theorem ok_l_given (T : Tx K mg) : FnOk P w K mg base CX0 5 T.f_l_given T.d_l_given ["_law_script", "_law_tape"] (spGen K 70 rGiven) := by
  refine T.F_l_given.ok sc_l_given (fun vs H Q E h => ?_) (fun cdv A outer s H vs Q E hr h => ?_)
  · obtain ⟨a, tp, ns, k, rfl, _⟩ := h
    rfl
  · obtain ⟨a, tp, ns, k, rfl, hS, htp, hk, q⟩ := h
    refine ⟨_, (pss_cons (ps_set (i := 2) sc_l_given.nd rfl (Or.inl rfl) (pe_call (ok_l_path T) (hr.mono (by omega)) rfl T.m_l_path T.F_l_path.kp T.B_l_path .nil pass0 (pa_cons (pv 0) (pa_cons (pv 1) pa_nil))))
      (pss_cons (ps_if (PW.pt (pw_or (pt_cmpR op_eq (pe_callB (len_seqK (K := K) rfl) (by rfl) T.n_len PySem.boot_len (pa_cons (pv 2) pa_nil)) pe_int (nomark _)) (pw_or1 (pt_cmpR op_eq (pe_call (ok_l_draw T) (hr.mono (by omega)) rfl T.m_l_draw T.F_l_draw.kp T.B_l_draw .nil pass0 (pa_cons (pv 0) (pa_cons (pv 1) (pa_cons pe_int pa_nil)))) pe_int (nomark _)))))
        (pss_one (ps_ret (pe_call (ok_l_atom T) (hr.mono (by omega)) rfl T.m_l_atom T.F_l_atom.kp T.B_l_atom .nil pass0 (pa_cons (pv 0) (pa_cons (pv 1) pa_nil)))))
        pss_nil)
      (pss_one (ps_ret (pv 2))))), ?_⟩
    walk_at "sy"
    refine ⟨a, tp, ns, k, rfl, hS, htp, (by omega : k + _ ≤ 400000), fun H1 v k1 hv hk1 t1 b1 => ?_⟩
    obtain ⟨p, ⟨l, vs, rfl, hl, hvs⟩, hp⟩ := hv
    have hS1 := hS.but b1
    have hvl := hvs.len
    walk_at "sy"
    by_cases e1 : (vs.length : Int) = 1
    · refine iteDT e1 ?_
      walk_at "sy"
      refine ⟨a, tp, ns, k1, rfl, hS1, t1, (by omega : k1 + _ ≤ 400000), fun H5 v k5 hv hk5 t5 b5 => ?_⟩
      obtain ⟨x, hx, hx2⟩ := hv
      walk_at "sy"
      exact q _ _ k5 ⟨Gv.at x, hx, hx2⟩ (by omega) t5 (SameBut.step b1 b5)
    · refine iteDF e1 ?_
      walk_at "sy"
      refine use_draw hS1 t1 (by omega) (by decide) (fun H2 d c2 l2 u2 => ?_)
      have b2 := c2.butStep b1
      walk_at "sy"
      by_cases e0 : d = 0
      · walk_at "sy"
        refine ⟨a, tp, ns, (k1 + 1), rfl, (hS1.but c2.but), c2.at_, (by omega : k1 + 1 + _ ≤ 400000), fun H5 v k5 hv hk5 t5 b5 => ?_⟩
        obtain ⟨x, hx, hx2⟩ := hv
        walk_at "sy"
        exact q _ _ k5 ⟨Gv.at x, hx, hx2⟩ (by omega) t5 (SameBut.step b2 b5)
      · walk_at "sy"
        exact q _ _ (k1 + 1) ⟨.path p, ⟨l, vs, rfl, c2.but _ _ hl (fun e => by rw [e, t1] at hl; cases hl), hvs.keep c2.keepL⟩, ⟨hp, by rw [List.length_map] at hvl; have := hp.1; omega⟩⟩ (by omega) c2.at_ b2
end
section
variable {P : Program} {w : World} {K : PySem.W.Frag} {mg : Str → Option Value} {base : Heap}
def rPlain (H : Hp) (v : V) : Prop := ∃ r : Rw, IsD H (toldD r) v ∧ GoodN r
theorem keepB {p : Addr} {H H' : Hp} {xs : List V} (b : SameBut p H H') (h : H p = some (.lst xs)) : Keep H H' := fun x y e st => b x y e (fun z => by
  subst z
  rw [h] at e
  cases e
  exact st.elim)
theorem sign {n : Nat} (h : n < 5) : ∃ c, atI (Str.ofString "+-*<=").cps.toList (n : Int) = some c ∧ (⟨#[c]⟩ : Str) ∈ signL := by
  have low : ∀ c ∈ (Str.ofString "+-*<=").cps.toList, (⟨#[c]⟩ : Str) ∈ signL := by decide +kernel
  have hl : (Str.ofString "+-*<=").cps.toList.length = 5 := by decide +kernel
  exact ⟨_, atI_nat (List.getElem?_eq_getElem (by omega)), low _ (List.getElem_mem _)⟩
theorem IsDs.take {H : Hp} : ∀ {ds : List Dt} {vs : List V} (n : Nat), IsDs H ds vs → IsDs H (ds.take n) (vs.take n)
  | [], _, n, h => by
    have h : _ = [] := h
    rw [h]
    cases n <;> rfl
  | d :: ds, _, 0, h => rfl
  | d :: ds, _, n + 1, ⟨v, r, e, h1, h2⟩ => by
    rw [e]
    exact ⟨v, r.take n, rfl, h1, IsDs.take n h2⟩
theorem ok_l_plain (T : Tx K mg) : FnOk P w K mg base CX0 6 T.f_l_plain T.d_l_plain ["_law_script", "_law_tape"] (spGen K 1000 rPlain) := by
  refine T.F_l_plain.ok sc_l_plain (fun vs H Q E h => ?_) (fun cdv A outer s H vs Q E hr h => ?_)
  · obtain ⟨a, tp, ns, k, rfl, _⟩ := h
    rfl
  · obtain ⟨a, tp, ns, k, rfl, hS, htp, hk, q⟩ := h
    refine ⟨_, (pss_cons (ps_set (i := 2) sc_l_plain.nd rfl (Or.inl rfl) (pe_call (ok_l_draw T) (hr.mono (by omega)) rfl T.m_l_draw T.F_l_draw.kp T.B_l_draw .nil pass0 (pa_cons (pv 0) (pa_cons (pv 1) (pa_cons pe_int pa_nil)))))
      (pss_cons (ps_set (i := 3) sc_l_plain.nd rfl (Or.inl rfl) (pe_call (ok_l_name T) (hr.mono (by omega)) rfl T.m_l_name T.F_l_name.kp T.B_l_name .nil pass0 (pa_cons (pv 0) (pa_cons (pv 1) pa_nil))))
      (pss_cons (ps_if (pt_cmpR op_eq (pv 2) pe_int (nomark _))
        (pss_one (ps_ret (pe_tup (pa_cons pe_str (pa_cons (pv 3) (pa_cons (pe_call (ok_l_atom T) (hr.mono (by omega)) rfl T.m_l_atom T.F_l_atom.kp T.B_l_atom .nil pass0 (pa_cons (pv 0) (pa_cons (pv 1) pa_nil))) (pa_cons pe_str (pa_cons pe_int pa_nil))))))))
        pss_nil)
      (pss_cons (ps_if (pt_cmpR op_eq (pv 2) pe_int (nomark _))
        (pss_cons (ps_set (i := 4) sc_l_plain.nd rfl (Or.inl rfl) (pe_ix ix_str pe_str (pe_call (ok_l_draw T) (hr.mono (by omega)) rfl T.m_l_draw T.F_l_draw.kp T.B_l_draw .nil pass0 (pa_cons (pv 0) (pa_cons (pv 1) (pa_cons pe_int pa_nil)))) (fun _ _ => rfl)))
        (pss_one (ps_ret (pe_tup (pa_cons pe_str (pa_cons (pv 3) (pa_cons (pe_call (ok_l_atom T) (hr.mono (by omega)) rfl T.m_l_atom T.F_l_atom.kp T.B_l_atom .nil pass0 (pa_cons (pv 0) (pa_cons (pv 1) pa_nil))) (pa_cons (pv 4) (pa_cons (pe_call (ok_l_atom T) (hr.mono (by omega)) rfl T.m_l_atom T.F_l_atom.kp T.B_l_atom .nil pass0 (pa_cons (pv 0) (pa_cons (pv 1) pa_nil))) pa_nil)))))))))
        pss_nil)
      (pss_cons (ps_if (pt_cmpR op_eq (pv 2) pe_int (nomark _))
        (pss_cons (ps_setLc (i := 5) (own := [("_law_k", 7)]) (g := gName 7) (tt := tYes) rfl sc_l_plain.nd rfl rfl (sw_true rfl rfl rfl (by decide +kernel)) (pi_range1 rfl T.n_range (pa_cons pe_int pa_nil)) (blkOk_by (own := [("_law_k", 7)]) (N := ["_law_script", "_law_tape", "_law_way", "_law_name_here", "_law_sign", "_law_atoms", "_law_given_here", "_law_k"]) (sc := defScope s_l_plain) (by decide +kernel)) (fun _ _ _ _ _ => pg_name (i := 7) sc_l_plain.nd rfl (Or.inl rfl)) (fun _ _ _ _ _ => pts_nil) (fun _ _ _ _ _ => (pe_ifExp (pt_cmpR op_eq (pe_call (ok_l_draw T) (hr.mono (by omega)) rfl T.m_l_draw T.F_l_draw.kp T.B_l_draw .nil pass0 (pa_cons (pv 0) (pa_cons (pv 1) (pa_cons pe_int pa_nil)))) pe_int (nomark _)) pe_str (pe_call (ok_l_atom T) (hr.mono (by omega)) rfl T.m_l_atom T.F_l_atom.kp T.B_l_atom .nil pass0 (pa_cons (pv 0) (pa_cons (pv 1) pa_nil))))))
        (pss_one (ps_ret (pe_tup (pa_cons pe_str (pa_cons (pv 3) (pa_cons (pe_call (ok_l_name T) (hr.mono (by omega)) rfl T.m_l_name T.F_l_name.kp T.B_l_name .nil pass0 (pa_cons (pv 0) (pa_cons (pv 1) pa_nil))) (pa_cons (pe_callTy (tuple_ofK (K := K) rfl) (by rfl) T.n_tuple PyProof.Rows.boot_tuple (pa_cons (pe_slice (sl_listK (K := K) rfl) (pv 5) po_none (po_some (pe_op op_add pe_int (pe_call (ok_l_draw T) (hr.mono (by omega)) rfl T.m_l_draw T.F_l_draw.kp T.B_l_draw .nil pass0 (pa_cons (pv 0) (pa_cons (pv 1) (pa_cons pe_int pa_nil))))))) pa_nil)) pa_nil))))))))
        pss_nil)
      (pss_cons (ps_if (pt_cmpR op_lt (pv 2) pe_int (nomark _))
        (pss_one (ps_ret (pe_tup (pa_cons (pe_ix (ix_listK (K := K) rfl) (pe_lst (pa_cons pe_str (pa_cons pe_str (pa_cons pe_str pa_nil)))) (pe_op op_sub (pv 2) pe_int) (fun _ _ => rfl)) (pa_cons (pv 3) (pa_cons (pe_call (ok_l_name T) (hr.mono (by omega)) rfl T.m_l_name T.F_l_name.kp T.B_l_name .nil pass0 (pa_cons (pv 0) (pa_cons (pv 1) pa_nil))) pa_nil))))))
        pss_nil)
      (pss_cons (ps_if (pt_cmpR op_lt (pv 2) pe_int (nomark _))
        (pss_one (ps_ret (pe_tup (pa_cons (pe_ix (ix_listK (K := K) rfl) (pe_lst (pa_cons pe_str (pa_cons pe_str (pa_cons pe_str (pa_cons pe_str (pa_cons pe_str (pa_cons pe_str pa_nil))))))) (pe_op op_sub (pv 2) pe_int) (fun _ _ => rfl)) (pa_cons (pv 3) (pa_cons (pe_call (ok_l_path T) (hr.mono (by omega)) rfl T.m_l_path T.F_l_path.kp T.B_l_path .nil pass0 (pa_cons (pv 0) (pa_cons (pv 1) pa_nil))) pa_nil))))))
        pss_nil)
      (pss_cons (ps_if (pt_cmpR op_eq (pv 2) pe_int (nomark _))
        (pss_one (ps_ret (pe_tup (pa_cons pe_str (pa_cons (pe_call (ok_l_path T) (hr.mono (by omega)) rfl T.m_l_path T.F_l_path.kp T.B_l_path .nil pass0 (pa_cons (pv 0) (pa_cons (pv 1) pa_nil))) (pa_cons (pv 3) pa_nil))))))
        pss_nil)
      (pss_cons (ps_if (pt_cmpR op_eq (pv 2) pe_int (nomark _))
        (pss_one (ps_ret (pe_tup (pa_cons pe_str (pa_cons (pe_call (ok_l_path T) (hr.mono (by omega)) rfl T.m_l_path T.F_l_path.kp T.B_l_path .nil pass0 (pa_cons (pv 0) (pa_cons (pv 1) pa_nil))) (pa_cons (pe_call (ok_l_atom T) (hr.mono (by omega)) rfl T.m_l_atom T.F_l_atom.kp T.B_l_atom .nil pass0 (pa_cons (pv 0) (pa_cons (pv 1) pa_nil))) pa_nil))))))
        pss_nil)
      (pss_cons (ps_if (pt_cmpR op_eq (pv 2) pe_int (nomark _))
        (pss_cons (ps_setLc (i := 6) (own := [("_law_k", 7)]) (g := gName 7) (tt := tYes) rfl sc_l_plain.nd rfl rfl (sw_true rfl rfl rfl (by decide +kernel)) (pi_range1 rfl T.n_range (pa_cons (pe_call (ok_l_draw T) (hr.mono (by omega)) rfl T.m_l_draw T.F_l_draw.kp T.B_l_draw .nil pass0 (pa_cons (pv 0) (pa_cons (pv 1) (pa_cons pe_int pa_nil)))) pa_nil)) (blkOk_by (own := [("_law_k", 7)]) (N := ["_law_script", "_law_tape", "_law_way", "_law_name_here", "_law_sign", "_law_atoms", "_law_given_here", "_law_k"]) (sc := defScope s_l_plain) (by decide +kernel)) (fun _ _ _ _ _ => pg_name (i := 7) sc_l_plain.nd rfl (Or.inl rfl)) (fun _ _ _ _ _ => pts_nil) (fun _ _ _ _ _ => (pe_call (ok_l_given T) (hr.mono (by omega)) rfl T.m_l_given T.F_l_given.kp T.B_l_given .nil pass0 (pa_cons (pv 0) (pa_cons (pv 1) pa_nil)))))
        (pss_one (ps_ret (pe_tup (pa_cons pe_str (pa_cons (pe_ix (ix_listK (K := K) rfl) (pe_lst (pa_cons pe_non (pa_cons (pv 3) pa_nil))) (pe_call (ok_l_draw T) (hr.mono (by omega)) rfl T.m_l_draw T.F_l_draw.kp T.B_l_draw .nil pass0 (pa_cons (pv 0) (pa_cons (pv 1) (pa_cons pe_int pa_nil)))) (fun _ _ => rfl)) (pa_cons (pe_call (ok_l_name T) (hr.mono (by omega)) rfl T.m_l_name T.F_l_name.kp T.B_l_name .nil pass0 (pa_cons (pv 0) (pa_cons (pv 1) pa_nil))) (pa_cons (pe_callTy (tuple_ofK (K := K) rfl) (by rfl) T.n_tuple PyProof.Rows.boot_tuple (pa_cons (pv 6) pa_nil)) pa_nil))))))))
        pss_nil)
      (pss_cons (ps_if (pt_cmpR op_eq (pv 2) pe_int (nomark _))
        (pss_one (ps_ret (pe_tup (pa_cons (pe_ix (ix_listK (K := K) rfl) (pe_lst (pa_cons pe_str (pa_cons pe_str pa_nil))) (pe_call (ok_l_draw T) (hr.mono (by omega)) rfl T.m_l_draw T.F_l_draw.kp T.B_l_draw .nil pass0 (pa_cons (pv 0) (pa_cons (pv 1) (pa_cons pe_int pa_nil)))) (fun _ _ => rfl)) (pa_cons (pv 3) pa_nil)))))
        pss_nil)
      (pss_one (ps_ret (pe_tup (pa_cons (pe_ix (ix_listK (K := K) rfl) (pe_lst (pa_cons pe_str (pa_cons pe_str pa_nil))) (pe_op op_sub (pv 2) pe_int) (fun _ _ => rfl)) (pa_cons (pe_call (ok_l_atom T) (hr.mono (by omega)) rfl T.m_l_atom T.F_l_atom.kp T.B_l_atom .nil pass0 (pa_cons (pv 0) (pa_cons (pv 1) pa_nil))) pa_nil)))))))))))))))), ?_⟩
    walk_at "sy"
    refine use_draw hS htp (by omega) (by decide) (fun H1 d c1 l1 u1 => ?_)
    have hS1 := hS.but c1.but
    walk_at "sy"
    refine ⟨a, tp, ns, k + 1, rfl, hS1, c1.at_, (by omega : k + 1 + _ ≤ 400000), fun H2 v k2 hv hk2 t2 b2 => ?_⟩
    obtain ⟨x, rfl, hx⟩ := hv
    have b2 := c1.but.step b2
    have hS2 := hS.but b2
    walk_at "sy"
    by_cases e0 : d = 0
    · walk_at "sy"
      refine ⟨a, tp, ns, k2, rfl, hS2, t2, (by omega : k2 + _ ≤ 400000), fun H3 v k3 hv hk3 t3 b3 => ?_⟩
      obtain ⟨y, hy, gy⟩ := hv
      have b3 := b2.step b3
      walk_at "sy"
      rename_i p4 H4 n4
      exact q _ _ k3 ⟨.set x y (Str.ofString "") (.num 0), ⟨_, _, rfl, n4.at_, _, _, rfl, rfl, _, _, rfl, rfl, _, _, rfl, hy.keep n4.keep, _, _, rfl, rfl, _, _, rfl, rfl, rfl⟩, ⟨hx, gy, .inl ⟨rfl, rfl⟩⟩⟩ (by omega) (n4.same _ _ t3) (butStep n4.same b3)
    by_cases e1 : d = 1
    · walk_at "sy"
      refine use_draw hS2 t2 (by omega) (by decide) (fun H3 m c3 l3 u3 => ?_)
      have b3 := c3.butStep b2
      obtain ⟨n, rfl⟩ : ∃ n : Nat, m = n := Int.eq_ofNat_of_zero_le l3
      obtain ⟨c, hc, lc⟩ := sign (n := n) (by omega)
      refine ⟨_, _, c, rfl, rfl, by decide +kernel, hc, ?_⟩
      walk_at "sy"
      refine ⟨a, tp, ns, k2 + 1, rfl, hS.but b3, c3.at_, (by omega : k2 + 1 + _ ≤ 400000), fun H4 v k4 hv hk4 t4 b4 => ?_⟩
      obtain ⟨y, hy, gy⟩ := hv
      have b4 := b3.step b4
      walk_at "sy"
      refine ⟨a, tp, ns, k4, rfl, hS.but b4, t4, (by omega : k4 + _ ≤ 400000), fun H5 v5 k5 hv hk5 t5 b5 => ?_⟩
      obtain ⟨z, hz, gz⟩ := hv
      have hy5 := hy.keep (keepB b5 t4)
      have b5 := b4.step b5
      walk_at "sy"
      rename_i p6 H6 n6
      have ec : (⟨#[c]⟩ : Str).length = 1 := rfl
      exact q _ _ k5 ⟨.set x y ⟨#[c]⟩ z, ⟨_, _, rfl, n6.at_, _, _, rfl, rfl, _, _, rfl, rfl, _, _, rfl, hy5.keep n6.keep, _, _, rfl, rfl, _, _, rfl, hz.keep n6.keep, rfl⟩, ⟨hx, gy, .inr ⟨lc, gz⟩⟩⟩ (by omega) (n6.same _ _ t5) (butStep n6.same b5)
    by_cases e2 : d = 2
    · walk_at "sy"
      refine k_lcR (fun D i Hx => ∃ (k4 : Nat) (gs : List At) (vs : List V), Hx D = some (.lst vs) ∧ IsDs Hx (gs.map atD) vs ∧ gs.length = i ∧ (∀ g ∈ gs, atOk g ∨ g = .nam (Str.ofString "none")) ∧ k4 ≤ k2 + 21 * i ∧ Hx tp = some (.lst [.int (k4 : Int)]) ∧ SameBut tp H2 Hx) (fun D Hx n => ⟨k2, [], [], n.at_, rfl, rfl, fun _ h => (by cases h), by omega, n.same _ _ t2, fun x y e _ => n.same _ _ e⟩) ?_ ?_
      · rintro D hD i Hx hi ⟨k4, gs, vs, hDx, hvs, rfl, hgs, hk4, tx, bx⟩
        have hi4 : gs.length < 4 := by omega
        have ne : D ≠ tp := fun e => by
          rw [e, t2] at hD
          cases hD
        have hvl := hvs.len
        rw [List.length_map] at hvl
        walk_at "sy"
        refine use_draw (hS2.but bx) tx (by omega) (by decide) (fun H4 m c4 l4 u4 => ?_)
        have b4 := c4.butStep bx
        have hD4 := c4.get hDx ne
        by_cases m0 : m = 0
        · subst m0
          walk_at "sy"
          rename_i H6 c6
          refine ⟨k4 + 1, gs ++ [.nam (Str.ofString "none")], vs ++ [.str (Str.ofString "none")], c6.at_, by rw [List.map_append]; exact (IsDs.snoc (d := .str (Str.ofString "none")) rfl (hvs.keep c4.keepL)).keep c6.keepL, by simp, fun z hz => ?_, by omega, c6.but _ _ c4.at_ (fun e => ne e.symm), fun x y e nx => ?_⟩
          · rcases List.mem_append.mp hz with hz | hz
            · exact hgs z hz
            · rw [List.mem_singleton.mp hz]
              exact .inr rfl
          · exact c6.but _ _ (b4 _ _ e nx) (fun h => by rw [h, hD] at e; cases e)
        · walk_at "sy"
          refine ⟨a, tp, ns, k4 + 1, rfl, hS2.but b4, c4.at_, (by omega : k4 + 1 + _ ≤ 400000), fun H5 v k5 hv hk5 t5 b5 => ?_⟩
          obtain ⟨g, hg, gg⟩ := hv
          have hD5 := b5 _ _ hD4 ne
          have hvs5 := IsDs.snoc hg ((hvs.keep c4.keepL).keep (keepB b5 c4.at_))
          refine w_acc hD5 (by have := sizeLine_eq; omega) fun H6 c6 => ?_
          refine ⟨k5, gs ++ [g], vs ++ [v], c6.at_, by rw [List.map_append]; exact hvs5.keep c6.keepL, by simp, fun z hz => ?_, by omega, c6.but _ _ t5 (fun e => ne e.symm), fun x y e nx => ?_⟩
          · rcases List.mem_append.mp hz with hz | hz
            · exact hgs z hz
            · obtain rfl : z = g := by simpa using hz
              exact .inl gg
          · exact c6.but _ _ (b5 _ _ (b4 _ _ e nx) nx) (fun h => by rw [h, hD] at e; cases e)
      · rintro D hD Hx ⟨k4, gs, vs, hDx, hvs, hgl, hgs, hk4, tx, bx⟩
        have ne : D ≠ tp := fun e => by
          rw [e, t2] at hD
          cases hD
        have hvl := hvs.len
        rw [List.length_map] at hvl
        have bx' := b2.step bx
        walk_at "sy"
        refine ⟨a, tp, ns, k4, rfl, hS.but bx', tx, (by omega : k4 + _ ≤ 400000), fun H3 v k3 hv hk3 t3 b3 => ?_⟩
        obtain ⟨y, rfl, hy⟩ := hv
        have b3' := bx'.step b3
        have hD3 := b3 _ _ hDx ne
        have hvs3 := hvs.keep (keepB b3 tx)
        walk_at "sy"
        refine use_draw (hS.but b3') t3 (by omega) (by decide) (fun H4 m c4 l4 u4 => ?_)
        have hD4 := c4.get hD3 ne
        have hvs4 := hvs3.keep c4.keepL
        have b4 := c4.butStep b3'
        obtain ⟨n, rfl⟩ : ∃ n : Nat, m = n := Int.eq_ofNat_of_zero_le l4
        walk_at "sy"
        rename_i q5 B5 n5 l6 hl6 B6 n6 p7 B7 n7
        rw [show (1 : Int) + (n : Int) = ((1 + n : Nat) : Int) from rfl, cut_hi] at n5 n6
        have hds : IsDs B7 ((gs.take (1 + n)).map atD) (vs.take (1 + n)) := by
          rw [List.map_take]
          exact ((hvs4.take (1 + n)).keep n5.keep).keep (n6.keep.trans n7.keep)
        exact q _ _ (k3 + 1) ⟨.make x y (gs.take (1 + n)), ⟨_, _, rfl, n7.at_, _, _, rfl, rfl, _, _, rfl, rfl, _, _, rfl, rfl, _, _, rfl, ⟨l6, _, rfl, n7.get n6.at_, hds⟩, rfl⟩, ⟨hx, hy, by rw [List.length_take]; omega, by rw [List.length_take]; omega, fun z hz => hgs z (List.mem_of_mem_take hz)⟩⟩ (by omega) (n7.get (n6.get (n5.get c4.at_))) (butStep n7.same (butStep n6.same (butStep n5.same b4)))
    by_cases e6 : d < 6
    · have g : d = 3 ∨ d = 4 ∨ d = 5 := by omega
      obtain ⟨w3, hix, hr3⟩ : ∃ w3 : Str, atI [V.str (Str.ofString "none"), V.str (Str.ofString "give"), V.str (Str.ofString "step")] (d - 3) = some (V.str w3) ∧ ∀ y : Str, nameOk y → ∃ r : Rw, toldD r = .tup [.str w3, .str x, .str y] ∧ GoodN r := by
        rcases g with rfl | rfl | rfl
        · exact ⟨_, rfl, fun y hy => ⟨.non x y, rfl, ⟨hx, hy⟩⟩⟩
        · exact ⟨_, rfl, fun y hy => ⟨.give x y, rfl, ⟨hx, hy⟩⟩⟩
        · exact ⟨_, rfl, fun y hy => ⟨.step x y, rfl, ⟨hx, hy⟩⟩⟩
      walk_at "sy"
      rename_i p3 H3 n3
      refine ⟨a, tp, ns, k2, rfl, hS2.but (fun x y e _ => n3.same _ _ e), n3.same _ _ t2, (by omega : k2 + _ ≤ 400000), fun H4 v k4 hv hk4 t4 b4 => ?_⟩
      obtain ⟨y, rfl, hy⟩ := hv
      have b4 := (butStep n3.same b2).step b4
      obtain ⟨r3, e3, g3⟩ := hr3 y hy
      walk_at "sy"
      rename_i p5 H5 n5
      exact q _ _ k4 ⟨r3, by rw [e3]; exact ⟨_, _, rfl, n5.at_, _, _, rfl, rfl, _, _, rfl, rfl, _, _, rfl, rfl, rfl⟩, g3⟩ (by omega) (n5.same _ _ t4) (butStep n5.same b4)
    by_cases e12 : d < 12
    · have g : d = 6 ∨ d = 7 ∨ d = 8 ∨ d = 9 ∨ d = 10 ∨ d = 11 := by omega
      obtain ⟨w3, hix, hr3⟩ : ∃ w3 : Str, atI [V.str (Str.ofString "take"), V.str (Str.ofString "swap"), V.str (Str.ofString "get"), V.str (Str.ofString "has"), V.str (Str.ofString "look"), V.str (Str.ofString "hand")] (d - 6) = some (V.str w3) ∧ ∀ y : List Str, pathOk y → ∃ r : Rw, toldD r = .tup [.str w3, .str x, pathD y] ∧ GoodN r := by
        rcases g with rfl | rfl | rfl | rfl | rfl | rfl
        · exact ⟨_, rfl, fun y hy => ⟨.take x y, rfl, ⟨hx, hy⟩⟩⟩
        · exact ⟨_, rfl, fun y hy => ⟨.swap x y, rfl, ⟨hx, hy⟩⟩⟩
        · exact ⟨_, rfl, fun y hy => ⟨.get x y, rfl, ⟨hx, hy⟩⟩⟩
        · exact ⟨_, rfl, fun y hy => ⟨.has x y, rfl, ⟨hx, hy⟩⟩⟩
        · exact ⟨_, rfl, fun y hy => ⟨.lend false x y, rfl, ⟨hx, hy⟩⟩⟩
        · exact ⟨_, rfl, fun y hy => ⟨.lend true x y, rfl, ⟨hx, hy⟩⟩⟩
      walk_at "sy"
      rename_i p3 H3 n3
      refine ⟨a, tp, ns, k2, rfl, hS2.but (fun x y e _ => n3.same _ _ e), n3.same _ _ t2, (by omega : k2 + _ ≤ 400000), fun H4 v k4 hv hk4 t4 b4 => ?_⟩
      obtain ⟨y, hy, gy⟩ := hv
      have b4 := (butStep n3.same b2).step b4
      obtain ⟨r3, e3, g3⟩ := hr3 y gy
      walk_at "sy"
      rename_i p5 H5 n5
      exact q _ _ k4 ⟨r3, by rw [e3]; exact ⟨_, _, rfl, n5.at_, _, _, rfl, rfl, _, _, rfl, rfl, _, _, rfl, hy.keep n5.keep, rfl⟩, g3⟩ (by omega) (n5.same _ _ t4) (butStep n5.same b4)
    by_cases f12 : d = 12
    · walk_at "sy"
      refine ⟨a, tp, ns, k2, rfl, hS2, t2, (by omega : k2 + _ ≤ 400000), fun H3 v k3 hv hk3 t3 b3 => ?_⟩
      obtain ⟨y, hy, gy⟩ := hv
      have b3 := b2.step b3
      walk_at "sy"
      rename_i p4 H4 n4
      exact q _ _ k3 ⟨.fill y x, ⟨_, _, rfl, n4.at_, _, _, rfl, rfl, _, _, rfl, hy.keep n4.keep, _, _, rfl, rfl, rfl⟩, ⟨gy, hx⟩⟩ (by omega) (n4.same _ _ t3) (butStep n4.same b3)
    by_cases f13 : d = 13
    · walk_at "sy"
      refine ⟨a, tp, ns, k2, rfl, hS2, t2, (by omega : k2 + _ ≤ 400000), fun H3 v k3 hv hk3 t3 b3 => ?_⟩
      obtain ⟨y, hy, gy⟩ := hv
      have b3' := b2.step b3
      walk_at "sy"
      refine ⟨a, tp, ns, k3, rfl, hS.but b3', t3, (by omega : k3 + _ ≤ 400000), fun H5 v5 k5 hv hk5 t5 b5 => ?_⟩
      obtain ⟨z, hz, gz⟩ := hv
      have hy5 := hy.keep (keepB b5 t3)
      have b5' := b3'.step b5
      walk_at "sy"
      rename_i p6 H6 n6
      exact q _ _ k5 ⟨.put y z, ⟨_, _, rfl, n6.at_, _, _, rfl, rfl, _, _, rfl, hy5.keep n6.keep, _, _, rfl, hz.keep n6.keep, rfl⟩, ⟨gy, gz⟩⟩ (by omega) (n6.same _ _ t5) (butStep n6.same b5')
    by_cases f14 : d = 14
    · walk_at "sy"
      refine use_draw hS2 t2 (by omega) (by decide) (fun H3 m c3 l3 u3 => ?_)
      have b3 := c3.butStep b2
      have t3 := c3.at_
      have hS3 := hS.but b3
      walk_at "sy"
      refine k_lcR (fun D i Hx => ∃ (k4 : Nat) (gs : List Gv) (vs : List V), Hx D = some (.lst vs) ∧ IsDs Hx (gs.map gvD) vs ∧ gs.length = i ∧ (∀ g ∈ gs, gvOk g) ∧ k4 ≤ k2 + 1 + 70 * i ∧ Hx tp = some (.lst [.int (k4 : Int)]) ∧ SameBut tp H3 Hx) (fun D Hx n => ⟨k2 + 1, [], [], n.at_, rfl, rfl, fun _ h => (by cases h), by omega, n.same _ _ t3, fun x y e _ => n.same _ _ e⟩) ?_ ?_
      · rintro D hD i Hx hi ⟨k4, gs, vs, hDx, hvs, rfl, hgs, hk4, tx, bx⟩
        have hi7 : gs.length < 7 := by omega
        walk_at "sy"
        refine ⟨a, tp, ns, k4, rfl, hS3.but bx, tx, (by omega : k4 + _ ≤ 400000), fun H4 v k5 hv hk5 t5 b5 => ?_⟩
        obtain ⟨g, hg, gg⟩ := hv
        have ne : D ≠ tp := fun e => by
          rw [e, t3] at hD
          cases hD
        have hD2 := b5 _ _ hDx ne
        have hvl := hvs.len
        rw [List.length_map] at hvl
        have hvs5 := IsDs.snoc hg (hvs.keep (keepB b5 tx))
        refine w_acc hD2 (by have := sizeLine_eq; omega) fun H6 c6 => ?_
        refine ⟨k5, gs ++ [g], vs ++ [v], c6.at_, by rw [List.map_append]; exact hvs5.keep c6.keepL, by simp, fun z hz => ?_, by omega, c6.but _ _ t5 (fun e => ne e.symm), fun x y e nx => ?_⟩
        · rcases List.mem_append.mp hz with hz | hz
          · exact hgs z hz
          · obtain rfl : z = g := by simpa using hz
            exact gg
        · exact c6.but _ _ (b5 _ _ (bx _ _ e nx) nx) (fun h => by rw [h, hD] at e; cases e)
      · rintro D hD Hx ⟨k4, gs, vs, hDx, hvs, hgl, hgs, hk4, tx, bx⟩
        have ne : D ≠ tp := fun e => by
          rw [e, t3] at hD
          cases hD
        have hvl := hvs.len
        rw [List.length_map] at hvl
        have bx' := b3.step bx
        walk_at "sy"
        rename_i q4 B4 n4
        have b4 := butStep n4.same bx'
        have hD4 := n4.get hDx
        have hvs4 := hvs.keep n4.keep
        refine use_draw (hS.but b4) (n4.get tx) (by omega) (by decide) (fun B5 d2 c5 l5 u5 => ?_)
        have b5 := c5.butStep b4
        have hD5 := c5.get hD4 ne
        have hvs5 := hvs4.keep c5.keepL
        have hp5 : B5 q4 = some (.lst [V.non, V.str x]) := c5.get n4.at_ (n4.ne tx)
        have g : d2 = 0 ∨ d2 = 1 := by omega
        obtain ⟨nm, v0, hix, hnm, hnl⟩ : ∃ (nm : Option Str) (v0 : V), atI [V.non, V.str x] d2 = some v0 ∧ (∀ Hz : Hp, IsD Hz (optD nm) v0) ∧ ∀ z, nm = some z → nameOk z := by
          rcases g with rfl | rfl
          · exact ⟨none, _, rfl, fun _ => rfl, fun z hz => (by cases hz)⟩
          · exact ⟨some x, _, rfl, fun _ => rfl, fun z hz => (by cases hz; exact hx)⟩
        walk_at "sy"
        refine ⟨a, tp, ns, k4 + 1, rfl, hS.but b5, c5.at_, (by omega : k4 + 1 + _ ≤ 400000), fun B6 v k6 hv hk6 t6 b6 => ?_⟩
        obtain ⟨y, rfl, hy⟩ := hv
        have b6' := b5.step b6
        have hD6 := b6 _ _ hD5 ne
        have hvs6 := hvs5.keep (keepB b6 c5.at_)
        walk_at "sy"
        rename_i l7 hl7 B7 n7 p8 B8 n8
        exact q _ _ k6 ⟨.call nm y gs, ⟨_, _, rfl, n8.at_, _, _, rfl, rfl, _, _, rfl, hnm _, _, _, rfl, rfl, _, _, rfl, ⟨l7, _, rfl, n8.get n7.at_, hvs6.keep (n7.keep.trans n8.keep)⟩, rfl⟩, ⟨hnl, hy, by omega, hgs⟩⟩ (by omega) (n8.get (n7.get t6)) (butStep n8.same (butStep n7.same b6'))
    by_cases f15 : d = 15
    · walk_at "sy"
      rename_i p3 H3 n3
      refine use_draw (hS2.but (fun x y e _ => n3.same _ _ e)) (n3.same _ _ t2) (by omega) (by decide) (fun H4 m c4 l4 u4 => ?_)
      have b4 := c4.butStep (butStep n3.same b2)
      have g : m = 0 ∨ m = 1 := by omega
      obtain ⟨w3, hix, r3, e3, g3⟩ : ∃ w3 : Str, atI [V.str (Str.ofString "drop"), V.str (Str.ofString "ask")] m = some (V.str w3) ∧ ∃ r : Rw, toldD r = .tup [.str w3, .str x] ∧ GoodN r := by
        rcases g with rfl | rfl
        · exact ⟨_, rfl, .drop x, rfl, hx⟩
        · exact ⟨_, rfl, .ask x, rfl, hx⟩
      walk_at "sy"
      rename_i p5 H5 n5
      exact q _ _ (k2 + 1) ⟨r3, by rw [e3]; exact ⟨_, _, rfl, n5.at_, _, _, rfl, rfl, _, _, rfl, rfl, rfl⟩, g3⟩ (by omega) (n5.same _ _ c4.at_) (butStep n5.same b4)
    have g : d = 16 ∨ d = 17 := by omega
    obtain ⟨w3, hix, hr3⟩ : ∃ w3 : Str, atI [V.str (Str.ofString "back"), V.str (Str.ofString "tell")] (d - 16) = some (V.str w3) ∧ ∀ y : At, atOk y → ∃ r : Rw, toldD r = .tup [.str w3, atD y] ∧ GoodN r := by
      rcases g with rfl | rfl
      · exact ⟨_, rfl, fun y hy => ⟨.back y, rfl, hy⟩⟩
      · exact ⟨_, rfl, fun y hy => ⟨.tell y, rfl, hy⟩⟩
    walk_at "sy"
    rename_i p3 H3 n3
    refine ⟨a, tp, ns, k2, rfl, hS2.but (fun x y e _ => n3.same _ _ e), n3.same _ _ t2, (by omega : k2 + _ ≤ 400000), fun H4 v k4 hv hk4 t4 b4 => ?_⟩
    obtain ⟨y, hy, gy⟩ := hv
    have b4 := (butStep n3.same b2).step b4
    obtain ⟨r3, e3, g3⟩ := hr3 y gy
    walk_at "sy"
    rename_i p5 H5 n5
    exact q _ _ k4 ⟨r3, by rw [e3]; exact ⟨_, _, rfl, n5.at_, _, _, rfl, rfl, _, _, rfl, hy.keep n5.keep, rfl⟩, g3⟩ (by omega) (n5.same _ _ t4) (butStep n5.same b4)
end
section
local macro_rules | `(tactic| walk_at "sy1") => `(tactic| first | with_reducible refine w_drop ?_ | with_reducible refine w_for ?_ | with_reducible refine w_ifS ?_ | with_reducible refine w_if ?_ | with_reducible refine w_ret ?_ | with_reducible refine w_call ?_)
/-! ### drawn rows, ifs and whiles within one another -/
def SB2 (tp rm : Addr) (H H' : Hp) : Prop := ∀ x o, H x = some o → x ≠ tp → x ≠ rm → H' x = some o
theorem SB2.then {tp rm : Addr} {H H1 H2 : Hp} (s : SB2 tp rm H H1) (t : SB2 tp rm H1 H2) : SB2 tp rm H H2 := fun x o e n m => t _ _ (s x o e n m) n m
theorem SB2.ofB {tp rm : Addr} {H H' : Hp} (s : SameBut tp H H') : SB2 tp rm H H' := fun x o e n _ => s x o e n
theorem SB2.ofS {tp rm : Addr} {H H' : Hp} (s : Same H H') : SB2 tp rm H H' := fun x o e _ _ => s x o e
theorem SB2.ofR {tp rm : Addr} {H H' : Hp} {a b : HO} (c : Chg rm a b H H') : SB2 tp rm H H' := fun x o e _ m => c.but x o e m
theorem SB2.own {tp rm f : Addr} {H H1 H2 : Hp} {a b : HO} (s : SB2 tp rm H H1) (c : Chg f a b H1 H2) (hf : H f = none) : SB2 tp rm H H2 := fun x o e n m => c.but _ _ (s x o e n m) (ne_of_none e hf)
theorem SB2.keep {tp rm : Addr} {H H' : Hp} {xs ys : List V} (s : SB2 tp rm H H') (h1 : H tp = some (.lst xs)) (h2 : H rm = some (.lst ys)) : Keep H H' := fun p o e st => s p o e (fun z => by rw [z, h1] at e; cases e; exact st) (fun z => by rw [z, h2] at e; cases e; exact st)
def Stays2 (K : PySem.W.Frag) (H : Hp) (tp rm a : Addr) (xs : List V) : Prop := ∀ H', SB2 tp rm H H' → SqL K H' a xs
theorem Stays2.but {K : PySem.W.Frag} {H H' : Hp} {tp rm a : Addr} {xs : List V} (h : Stays2 K H tp rm a xs) (s : SB2 tp rm H H') : Stays2 K H' tp rm a xs := fun H2 b => h H2 (s.then b)
theorem Stays2.one {K : PySem.W.Frag} {H : Hp} {tp rm a : Addr} {xs : List V} (h : Stays2 K H tp rm a xs) : Stays K H tp a xs := fun H2 b => h H2 (.ofB b)
theorem Stays2.new {K : PySem.W.Frag} {H H1 : Hp} {tp rm a : Addr} {xs : List V} {o : HO} (h : Stays K H tp a xs) (n : New rm o H H1) : Stays2 K H1 tp rm a xs := fun H2 b => h H2 (fun x u e ne => b x u (n.same _ _ e) ne (ne_of_none e n.free))
/-- texts and numbers that may be shown, at every depth -/
def goodE : Nat → El → Prop
  | _, .row r => GoodN r
  | d + 1, .iff a rs os => atOk a ∧ (∀ r ∈ rs, goodE d r) ∧ ∀ r ∈ os, goodE d r
  | d + 1, .whl a rs => atOk a ∧ ∀ r ∈ rs, goodE d r
  | _, _ => False
mutual
def cntE : El → Nat
  | .iff _ rs os => 1 + cntEs rs + cntEs os
  | .whl _ rs => 1 + cntEs rs
  | .hel _ _ _ rs => 1 + cntEs rs
  | _ => 1
def cntEs : List El → Nat
  | [] => 0
  | e :: es => cntE e + cntEs es
end
theorem cntEs_snoc (e : El) : ∀ es : List El, cntEs (es ++ [e]) = cntEs es + cntE e
  | [] => by show cntE e + 0 = 0 + cntE e; omega
  | x :: es => by
    show cntE x + cntEs (es ++ [e]) = cntE x + cntEs es + cntE e
    rw [cntEs_snoc e es]
    omega
def okG (d : Nat) (e : El) : Prop := okM d e ∧ smallD (elD e) ∧ dpt (elD e) ≤ 3 + 2 * d ∧ goodE d e ∧ lowD (elD e)
theorem els_small {d : Nat} {rs : List El} (hl : rs.length ≤ 1000) (h : ∀ e ∈ rs, okG d e) : smallD (.tup (elDs rs)) ∧ dpt (.tup (elDs rs)) ≤ 4 + 2 * d := by
  have := tup_small (ds := elDs rs) (n := 3 + 2 * d) (by rw [elDs_len]; exact hl) (fun x hx => by
    rw [elDs_eq] at hx
    obtain ⟨e, he, rfl⟩ := List.mem_map.mp hx
    exact ⟨(h e he).2.1, (h e he).2.2.1⟩)
  exact ⟨this.1, by omega⟩
theorem els_low {d : Nat} {rs : List El} (h : ∀ e ∈ rs, okG d e) : lowDs (elDs rs) := lowDs_of fun x hx => by
  rw [elDs_eq] at hx
  obtain ⟨e, he, rfl⟩ := List.mem_map.mp hx
  exact (h e he).2.2.2.2
theorem word_low : (lowS (Str.ofString "if") ∧ lowS (Str.ofString "while")) ∧ (Str.ofString "if").length ≤ 5 ∧ (Str.ofString "while").length ≤ 5 := by decide +kernel
theorem sz_iff {a : At} {rs os : List El} (g : ShL (atD a)) : szD (elD (.iff a rs os)) ≤ 2500 + szDs (elDs rs) + szDs (elDs os) := by
  have h1 := g.sz.2
  have h2 := word_low.2.1
  show 7 + (10 * (Str.ofString "if").length + 2 + 2 + (szD (atD a) + 2 + (7 + szDs (elDs rs) + 2 + (7 + szDs (elDs os) + 2 + 0)))) ≤ _
  omega
theorem sz_whl {a : At} {rs : List El} (g : ShL (atD a)) : szD (elD (.whl a rs)) ≤ 2500 + szDs (elDs rs) := by
  have h1 := g.sz.2
  have h2 := word_low.2.2
  show 7 + (10 * (Str.ofString "while").length + 2 + 2 + (szD (atD a) + 2 + (7 + szDs (elDs rs) + 2 + 0))) ≤ _
  omega
theorem at_small (a : At) : smallD (atD a) ∧ dpt (atD a) = 0 := by cases a <;> exact ⟨trivial, rfl⟩
theorem okG_iff {d : Nat} {a : At} {rs os : List El} (g0 : atOk a) (h1 : rs.length ≤ 1000) (h2 : os.length ≤ 1000) (g1 : ∀ e ∈ rs, okG d e) (g2 : ∀ e ∈ os, okG d e) : okG (d + 1) (.iff a rs os) := by
  have s1 := els_small h1 g1
  have s2 := els_small h2 g2
  have s0 := at_small a
  refine ⟨⟨h1, h2, fun e m => (g1 e m).1, fun e m => (g2 e m).1⟩, ⟨by simp, trivial, s0.1, s1.1, s2.1, trivial⟩, ?_, ⟨g0, fun e m => (g1 e m).2.2.2.1, fun e m => (g2 e m).2.2.2.1⟩, word_low.1.1, g0.shl.sz.1, els_low g1, els_low g2, trivial⟩
  show 1 + max 0 (max (dpt (atD a)) (max (dpt (.tup (elDs rs))) (max (dpt (.tup (elDs os))) 0))) ≤ _
  omega
theorem okG_whl {d : Nat} {a : At} {rs : List El} (g0 : atOk a) (h1 : rs.length ≤ 1000) (g1 : ∀ e ∈ rs, okG d e) : okG (d + 1) (.whl a rs) := by
  have s1 := els_small h1 g1
  have s0 := at_small a
  refine ⟨⟨h1, fun e m => (g1 e m).1⟩, ⟨by simp, trivial, s0.1, s1.1, trivial⟩, ?_, ⟨g0, fun e m => (g1 e m).2.2.2.1⟩, word_low.1.2, g0.shl.sz.1, els_low g1, trivial⟩
  show 1 + max 0 (max (dpt (atD a)) (max (dpt (.tup (elDs rs))) 0)) ≤ _
  omega
theorem okG_row {d : Nat} {r : Rw} (h : GoodN r) : okG d (.row r) := by
  have := told_small h.goodL.good
  refine ⟨by cases d <;> trivial, this.2, ?_, by cases d <;> exact h, h.goodL.low.1⟩
  show dpt (toldD r) ≤ _
  omega
section
variable {P : Program} {w : World} {K : PySem.W.Frag} {mg : Str → Option Value} {base : Heap}
def RowsG (H : Hp) (d n : Nat) (v : V) (es : List El) : Prop := ∃ (q : Addr) (us : List V), v = .ref q ∧ H q = some (.tup us) ∧ IsDs H (elDs es) us ∧ es.length ≤ n ∧ ∀ e ∈ es, okG d e
theorem RowsG.keep {H H' : Hp} {d n : Nat} {v : V} {rs : List El} (k : Keep H H') (h : RowsG H d n v rs) : RowsG H' d n v rs := by
  obtain ⟨q, us, e, h1, h2, h3, h4⟩ := h
  exact ⟨q, us, e, k _ _ h1 trivial, h2.keep k, h3, h4⟩
def spRowsG (K : PySem.W.Frag) (d : Nat) : Sp := fun vs H Q _ => ∃ (a tp rm : Addr) (ns : List Int) (k ρ : Nat), vs = [.ref a, .ref tp, .int (d : Int), .ref rm] ∧ d ≤ 3 ∧ ρ ≤ 30 ∧ rm ≠ tp ∧ Stays2 K H tp rm a (ns.map V.int) ∧ H tp = some (.lst [.int (k : Int)]) ∧ H rm = some (.lst [.int (ρ : Int)]) ∧ k + 1100 * ρ ≤ 380000 ∧
  ∀ (H' : Hp) (v : V) (k' ρ' : Nat) (es : List El), RowsG H' d 4 v es → ρ' ≤ ρ → k' + 1100 * ρ' ≤ k + 5 + 1100 * ρ → szDs (elDs es) + 40000 * ρ' ≤ 40000 * ρ → cntEs es + ρ' ≤ ρ → H' tp = some (.lst [.int (k' : Int)]) → H' rm = some (.lst [.int (ρ' : Int)]) → SB2 tp rm H H' → Q v H'
def spRowsGP (K : PySem.W.Frag) : Nat → Sp
  | 0 => fun _ _ _ _ => False
  | d + 1 => spRowsG K d
theorem ok_l_rowsI {j d : Nat} (T : Tx K mg) (ih : FnOk P w K mg base CX0 (j + 6) T.f_l_rows T.d_l_rows ["_law_script", "_law_tape", "_law_deep", "_law_room"] (spRowsGP K d)) : FnOk P w K mg base CX0 (j + 7) T.f_l_rows T.d_l_rows ["_law_script", "_law_tape", "_law_deep", "_law_room"] (spRowsG K d) := by
  refine T.F_l_rows.ok sc_l_rows (fun vs H Q E h => ?_) (fun cdv A outer s H vs Q E hr h => ?_)
  · obtain ⟨a, tp, rm, ns, k, ρ, rfl, _⟩ := h
    rfl
  · obtain ⟨a, tp, rm, ns, k, ρ, rfl, hd, hρ, hne, hS, htp, hrm, hk, q⟩ := h
    refine ⟨_, (pss_cons (ps_set (i := 4) sc_l_rows.nd rfl (Or.inl rfl) (pe_lst pa_nil))
      (pss_cons (ps_for PassesOwn.never rfl (pi_range1 rfl T.n_range (pa_cons (pe_call (ok_l_draw T) (hr.mono (by omega)) rfl T.m_l_draw T.F_l_draw.kp T.B_l_draw .nil pass0 (pa_cons (pv 0) (pa_cons (pv 1) (pa_cons pe_int pa_nil)))) pa_nil)) (pg_name (i := 5) sc_l_rows.nd rfl (Or.inl rfl))
        (pss_cons (ps_set (i := 6) sc_l_rows.nd rfl (Or.inl rfl) (pe_call (ok_l_draw T) (hr.mono (by omega)) rfl T.m_l_draw T.F_l_draw.kp T.B_l_draw .nil pass0 (pa_cons (pv 0) (pa_cons (pv 1) (pa_cons pe_int pa_nil)))))
        (pss_one (ps_if (PW.pt (pw_and (pt_cmpR op_gt (pe_ix (ix_listK (K := K) rfl) (pv 3) pe_int (fun _ _ => rfl)) pe_int (nomark _)) (pw_and (pt_cmpR op_gt (pv 2) pe_int (nomark _)) (pw_and1 (pt_cmpR op_lt (pv 6) pe_int (nomark _))))))
          (pss_cons (ps_asg (pe_op op_sub (pe_ix (ix_listK (K := K) rfl) (pv 3) pe_int (fun _ _ => rfl)) pe_int) (pg_sub (pv 3) pe_int set_list))
          (pss_cons (ps_set (i := 7) sc_l_rows.nd rfl (Or.inl rfl) (pe_call (ok_l_atom T) (hr.mono (by omega)) rfl T.m_l_atom T.F_l_atom.kp T.B_l_atom .nil pass0 (pa_cons (pv 0) (pa_cons (pv 1) pa_nil))))
          (pss_cons (ps_set (i := 8) sc_l_rows.nd rfl (Or.inl rfl) (pe_call ih (hr.mono (by omega)) rfl T.m_l_rows T.F_l_rows.kp T.B_l_rows .nil pass0 (pa_cons (pv 0) (pa_cons (pv 1) (pa_cons (pe_op op_sub (pv 2) pe_int) (pa_cons (pv 3) pa_nil))))))
          (pss_one (ps_if (pt_cmpR op_eq (pv 6) pe_int (nomark _))
            (pss_one (ps_expr (pe_bm PySem.F.plainAttrs_list PySem.F.slot_list_append PySem.F.type_list_append mt_append (pv 4) (pa_cons (pe_tup (pa_cons pe_str (pa_cons (pv 7) (pa_cons (pv 8) (pa_cons (pe_call ih (hr.mono (by omega)) rfl T.m_l_rows T.F_l_rows.kp T.B_l_rows .nil pass0 (pa_cons (pv 0) (pa_cons (pv 1) (pa_cons (pe_op op_sub (pv 2) pe_int) (pa_cons (pv 3) pa_nil))))) pa_nil))))) pa_nil))))
            (pss_one (ps_expr (pe_bm PySem.F.plainAttrs_list PySem.F.slot_list_append PySem.F.type_list_append mt_append (pv 4) (pa_cons (pe_tup (pa_cons pe_str (pa_cons (pv 7) (pa_cons (pv 8) pa_nil)))) pa_nil)))))))))
          (pss_one (ps_if (pt_cmpR op_gt (pe_ix (ix_listK (K := K) rfl) (pv 3) pe_int (fun _ _ => rfl)) pe_int (nomark _))
            (pss_cons (ps_asg (pe_op op_sub (pe_ix (ix_listK (K := K) rfl) (pv 3) pe_int (fun _ _ => rfl)) pe_int) (pg_sub (pv 3) pe_int set_list))
            (pss_one (ps_expr (pe_bm PySem.F.plainAttrs_list PySem.F.slot_list_append PySem.F.type_list_append mt_append (pv 4) (pa_cons (pe_call (ok_l_plain T) (hr.mono (by omega)) rfl T.m_l_plain T.F_l_plain.kp T.B_l_plain .nil pass0 (pa_cons (pv 0) (pa_cons (pv 1) pa_nil))) pa_nil)))))
            pss_nil))))))
      (pss_one (ps_ret (pe_callTy (tuple_ofK (K := K) rfl) (by rfl) T.n_tuple PyProof.Rows.boot_tuple (pa_cons (pv 4) pa_nil)))))), ?_⟩
    walk_at "sy"
    rename_i fl H1 n1
    have ffl := n1.free
    have neF : fl ≠ tp := n1.ne htp
    have neR : fl ≠ rm := n1.ne hrm
    refine use_draw (hS.but (.ofS n1.same)).one (n1.get htp) (by omega) (by decide) (fun H2 d1 c2 l1 u1 => ?_)
    obtain ⟨n, rfl⟩ : ∃ n : Nat, d1 = n := Int.eq_ofNat_of_zero_le l1
    walk_at "sy"
    have b2 : SB2 tp rm H H2 := (SB2.ofS n1.same).then (.ofB c2.but)
    have hr2 := c2.get (n1.get hrm) hne
    refine k_forR (fun i σ Hx => ∃ (v5 v6 v7 v8 : Option V) (k1 ρ1 : Nat) (us : List V) (es : List El), σ = [some (.ref a), some (.ref tp), some (.int (d : Int)), some (.ref rm), some (.ref fl), v5, v6, v7, v8] ∧ SB2 tp rm H Hx ∧ Hx tp = some (.lst [.int (k1 : Int)]) ∧ Hx rm = some (.lst [.int (ρ1 : Int)]) ∧ ρ1 ≤ ρ ∧ k1 + 1100 * ρ1 ≤ k + 1 + i + 1100 * ρ ∧ Hx fl = some (.lst us) ∧ IsDs Hx (elDs es) us ∧ es.length ≤ i ∧ szDs (elDs es) + 40000 * ρ1 ≤ 40000 * ρ ∧ cntEs es + ρ1 ≤ ρ ∧ ∀ e ∈ es, okG d e)
      ⟨none, none, none, none, k + 1, ρ, [], [], rfl, b2, c2.at_, hr2, Nat.le_refl _, by omega, c2.get n1.at_ neF, rfl, Nat.le_refl _, by show 0 + _ ≤ _; omega, by show 0 + _ ≤ _; omega, fun r h => absurd h (by simp)⟩ ?_ ?_
    · rintro i σ Hx hi ⟨v5, v6, v7, v8, k1, ρ1, us, es, rfl, bx, htx, hrx, hρ1, hk1, hlx, hus, hel, hsz, hct, hok⟩
      have hi5 : i < 4 := by omega
      have hul : us.length ≤ 4 := by rw [hus.len, elDs_len]; omega
      have hSx := hS.but bx
      have fin1 : ∀ (Hy Hz : Hp) (u : V) (e : El) (k2 ρ2 : Nat) (w5 w6 w7 w8 : Option V), SB2 tp rm Hx Hy → Chg fl (.lst us) (.lst (us ++ [u])) Hy Hz → IsD Hy (elD e) u → okG d e → szD (elD e) + 2 + 40000 * ρ2 ≤ 40000 * ρ1 → cntE e + ρ2 ≤ ρ1 → Hy tp = some (.lst [.int (k2 : Int)]) → Hy rm = some (.lst [.int (ρ2 : Int)]) → ρ2 ≤ ρ1 → k2 + 1100 * ρ2 ≤ k1 + 1 + 1100 * ρ1 →
          ∃ (v5 v6 v7 v8 : Option V) (k1 ρ1 : Nat) (us : List V) (es : List El), [some (V.ref a), some (V.ref tp), some (V.int (d : Int)), some (V.ref rm), some (V.ref fl), w5, w6, w7, w8] = [some (.ref a), some (.ref tp), some (.int (d : Int)), some (.ref rm), some (.ref fl), v5, v6, v7, v8] ∧ SB2 tp rm H Hz ∧ Hz tp = some (.lst [.int (k1 : Int)]) ∧ Hz rm = some (.lst [.int (ρ1 : Int)]) ∧ ρ1 ≤ ρ ∧ k1 + 1100 * ρ1 ≤ k + 1 + (i + 1) + 1100 * ρ ∧ Hz fl = some (.lst us) ∧ IsDs Hz (elDs es) us ∧ es.length ≤ i + 1 ∧ szDs (elDs es) + 40000 * ρ1 ≤ 40000 * ρ ∧ cntEs es + ρ1 ≤ ρ ∧ ∀ e ∈ es, okG d e := by
        intro Hy Hz u e k2 ρ2 w5 w6 w7 w8 b c hu hr hsz2 hct2 htz hrz hρ2 hk2
        have kp : Keep Hx Hy := b.keep htx hrx
        refine ⟨_, _, _, _, k2, ρ2, us ++ [u], es ++ [e], rfl, (bx.then b).own c ffl, c.get htz neF.symm, c.get hrz neR.symm, by omega, by omega, c.at_, ?_, by rw [List.length_append]; simp; omega, by rw [elDs_snoc, szDs_snoc]; omega, by rw [cntEs_snoc]; omega, fun x hx => ?_⟩
        · rw [elDs_snoc]
          exact IsDs.snoc (hu.keep c.keepL) ((hus.keep kp).keep c.keepL)
        · rcases List.mem_append.mp hx with hx | hx
          · exact hok x hx
          · obtain rfl := List.mem_singleton.mp hx
            exact hr
      walk_at "sy"
      refine use_draw hSx.one htx (by omega) (by decide) (fun H3 way c3 l3 u3 => ?_)
      have b3 : SB2 tp rm Hx H3 := .ofB c3.but
      have hr3 := c3.get hrx hne
      have hl3 := c3.get hlx neF
      have hS3 := hSx.but b3
      walk_at "sy"
      by_cases h0 : 0 < ρ1
      · refine iteDT (by omega) ?_
        walk_at "sy"
        by_cases hd0 : 0 < d
        · refine iteDT (by omega) ?_
          walk_at "sy"
          by_cases w2 : way < 2
          · refine iteDT w2 ?_
            obtain ⟨e, rfl⟩ : ∃ e, d = e + 1 := ⟨d - 1, by omega⟩
            have e1 : ((e + 1 : Nat) : Int) - 1 = (e : Int) := by omega
            walk_at "sy"
            rename_i H4 c4
            have er : (ρ1 : Int) - 1 = ((ρ1 - 1 : Nat) : Int) := by omega
            rw [er] at c4
            have c4 : Chg rm (.lst [.int (ρ1 : Int)]) (.lst [.int ((ρ1 - 1 : Nat) : Int)]) H3 H4 := c4
            have b4 : SB2 tp rm Hx H4 := b3.then (.ofR c4)
            have t4 := c4.get c3.at_ hne.symm
            have hl4 := c4.get hl3 neR
            have hS4 := hSx.but b4
            refine ⟨a, tp, ns, k1 + 1, rfl, hS4.one, t4, by omega, fun H5 v5 k5 h5 hk5 t5 b5 => ?_⟩
            obtain ⟨a5, ha5, hg5⟩ := h5
            have b45 : SB2 tp rm Hx H5 := b4.then (.ofB b5)
            have r5 := b5 _ _ c4.at_ hne
            have hl5 := b5 _ _ hl4 neF
            have hS5 := hSx.but b45
            walk_at "sy"
            refine ⟨a, tp, rm, ns, k5, ρ1 - 1, by rw [e1]; rfl, by omega, by omega, hne, hS5, t5, r5, by omega, fun H6 v6 k6 ρ6 es6 h6 hρ6 hk6 hz6 hc6 t6 r6 b6 => ?_⟩
            have hl6 := b6 _ _ hl5 neF neR
            have b46 := b45.then b6
            have hS6 := hSx.but b46
            have ha6 := ha5.keep (b6.keep t5 r5)
            obtain ⟨q6, us6, rfl, hq6, hus6, hel6, ok6⟩ := h6
            walk_at "sy"
            by_cases w0 : way = 0
            · refine iteDT w0 ?_
              walk_at "sy"
              refine ⟨a, tp, rm, ns, k6, ρ6, by rw [e1]; rfl, by omega, by omega, hne, hS6, t6, r6, by omega, fun H7 v7 k7 ρ7 es7 h7 hρ7 hk7 hz7 hc7 t7 r7 b7 => ?_⟩
              have k67 := b7.keep t6 r6
              have hl7 := b7 _ _ hl6 neF neR
              have hq67 := k67 _ _ hq6 trivial
              have hus67 := hus6.keep k67
              have ha7 := ha6.keep k67
              obtain ⟨q7, us7, rfl, hq7, hus7, hel7, ok7⟩ := h7
              walk_at "sy"
              rename_i p8 H8 n8 H9 c9
              exact fin1 H8 H9 _ (.iff a5 es6 es7) k7 ρ7 _ _ _ _ ((b46.then b7).then (.ofS n8.same)) c9 ⟨p8, _, rfl, n8.at_, _, _, rfl, rfl, _, _, rfl, ha7.keep n8.keep, _, _, rfl, ⟨q6, us6, rfl, n8.get hq67, hus67.keep n8.keep⟩, _, _, rfl, ⟨q7, us7, rfl, n8.get hq7, hus7.keep n8.keep⟩, rfl⟩ (okG_iff hg5 (by omega) (by omega) ok6 ok7) (by have := sz_iff (rs := es6) (os := es7) hg5.shl; omega) (by show 1 + cntEs es6 + cntEs es7 + _ ≤ _; omega) (n8.get t7) (n8.get r7) (by omega) (by omega)
            · refine iteDF w0 ?_
              walk_at "sy"
              rename_i p8 H8 n8 H9 c9
              exact fin1 H8 H9 _ (.whl a5 es6) k6 ρ6 _ _ _ _ (b46.then (.ofS n8.same)) c9 ⟨p8, _, rfl, n8.at_, _, _, rfl, rfl, _, _, rfl, ha6.keep n8.keep, _, _, rfl, ⟨q6, us6, rfl, n8.get hq6, hus6.keep n8.keep⟩, rfl⟩ (okG_whl hg5 (by omega) ok6) (by have := sz_whl (rs := es6) hg5.shl; omega) (by show 1 + cntEs es6 + _ ≤ _; omega) (n8.get t6) (n8.get r6) (by omega) (by omega)
          · refine iteDF w2 ?_
            walk_at "sy"
            rename_i H4 c4
            have er : (ρ1 : Int) - 1 = ((ρ1 - 1 : Nat) : Int) := by omega
            rw [er] at c4
            have c4 : Chg rm (.lst [.int (ρ1 : Int)]) (.lst [.int ((ρ1 - 1 : Nat) : Int)]) H3 H4 := c4
            have b4 : SB2 tp rm Hx H4 := b3.then (.ofR c4)
            have t4 := c4.get c3.at_ hne.symm
            have hl4 := c4.get hl3 neR
            refine ⟨a, tp, ns, k1 + 1, rfl, (hSx.but b4).one, t4, by omega, fun H5 v5 k5 h5 hk5 t5 b5 => ?_⟩
            obtain ⟨r, hr5, hg⟩ := h5
            have hl5 := b5 _ _ hl4 neF
            walk_at "sy"
            rename_i H6 c6
            exact fin1 H5 H6 _ (.row r) k5 (ρ1 - 1) _ _ _ _ (b4.then (.ofB b5)) c6 hr5 (okG_row hg) (by have := hg.goodL.low.2; show szD (toldD r) + 2 + _ ≤ _; omega) (by show 1 + _ ≤ _; omega) t5 (b5 _ _ c4.at_ hne) (by omega) (by omega)
        · refine iteDF (by omega) ?_
          walk_at "sy"
          rename_i H4 c4
          have er : (ρ1 : Int) - 1 = ((ρ1 - 1 : Nat) : Int) := by omega
          rw [er] at c4
          have c4 : Chg rm (.lst [.int (ρ1 : Int)]) (.lst [.int ((ρ1 - 1 : Nat) : Int)]) H3 H4 := c4
          have b4 : SB2 tp rm Hx H4 := b3.then (.ofR c4)
          have t4 := c4.get c3.at_ hne.symm
          have hl4 := c4.get hl3 neR
          refine ⟨a, tp, ns, k1 + 1, rfl, (hSx.but b4).one, t4, by omega, fun H5 v5 k5 h5 hk5 t5 b5 => ?_⟩
          obtain ⟨r, hr5, hg⟩ := h5
          have hl5 := b5 _ _ hl4 neF
          walk_at "sy"
          rename_i H6 c6
          exact fin1 H5 H6 _ (.row r) k5 (ρ1 - 1) _ _ _ _ (b4.then (.ofB b5)) c6 hr5 (okG_row hg) (by have := hg.goodL.low.2; show szD (toldD r) + 2 + _ ≤ _; omega) (by show 1 + _ ≤ _; omega) t5 (b5 _ _ c4.at_ hne) (by omega) (by omega)
      · refine iteDF (by omega) ?_
        walk_at "sy"
        exact ⟨_, _, _, _, k1 + 1, ρ1, us, es, rfl, bx.then b3, c3.at_, hr3, hρ1, by omega, hl3, hus.keep (b3.keep htx hrx), by omega, hsz, hct, hok⟩
    · rintro σ Hx ⟨v5, v6, v7, v8, k1, ρ1, us, es, rfl, bx, htx, hrx, hρ1, hk1, hlx, hus, hel, hsz, hct, hok⟩
      simp only [Int.toNat_natCast] at hk1 hel
      walk_at "sy"
      rename_i t z H1 n1
      exact q H1 _ k1 ρ1 es ⟨t, us, rfl, n1.at_, hus.keep n1.keep, by omega, hok⟩ hρ1 (by omega) hsz hct (n1.get htx) (n1.get hrx) (bx.then (.ofS n1.same))
theorem ok_l_rowsN (T : Tx K mg) : FnOk P w K mg base CX0 6 T.f_l_rows T.d_l_rows ["_law_script", "_law_tape", "_law_deep", "_law_room"] (fun _ _ _ _ => False) := T.F_l_rows.ok sc_l_rows (fun vs H Q E h => h.elim) (fun cdv A outer s H vs Q E hr h => h.elim)
theorem ok_l_rows (T : Tx K mg) : ∀ d : Nat, FnOk P w K mg base CX0 (d + 7) T.f_l_rows T.d_l_rows ["_law_script", "_law_tape", "_law_deep", "_law_room"] (spRowsG K d)
  | 0 => ok_l_rowsI (j := 0) (d := 0) T (ok_l_rowsN T)
  | d + 1 => ok_l_rowsI (j := d + 1) (d := d + 1) T (ok_l_rows T d)
end
/-! ### drawn programs -/
theorem SameBut.own {H H1 H2 : Hp} {tp f : Addr} {u v : HO} (s : SameBut tp H H1) (c : Chg f u v H1 H2) (hf : H f = none) : SameBut tp H H2 := fun x o e n => c.but _ _ (s x o e n) (ne_of_none e hf)
theorem SameBut.more {H H1 H2 : Hp} {tp : Addr} (s : SameBut tp H H1) (t : Same H1 H2) : SameBut tp H H2 := fun x o e n => t _ _ (s x o e n)
theorem SameBut.then {H H1 H2 : Hp} {tp : Addr} (s : SameBut tp H H1) (t : SameBut tp H1 H2) : SameBut tp H H2 := fun x o e n => t _ _ (s x o e n) n
theorem SameBut.two {H H1 H2 : Hp} {tp rm : Addr} (s : SameBut tp H H1) (t : SB2 tp rm H1 H2) (f : H rm = none) : SameBut tp H H2 := fun x o e n => t _ _ (s x o e n) n (ne_of_none e f)
section
variable {P : Program} {w : World} {K : PySem.W.Frag} {mg : Str → Option Value} {base : Heap}
def kindS (s : Str) : Prop := s = Str.ofString "num" ∨ nameOk s
def parS (x y z : Str) : Prop := (x = Str.ofString "num" ∧ nameOk y ∧ z = Str.ofString "num") ∨ (x ∈ [Str.ofString "box", Str.ofString "look", Str.ofString "hand"] ∧ nameOk y ∧ nameOk z)
def rStr (_ : Hp) (v : V) : Prop := ∃ s : Str, v = .str s ∧ kindS s
theorem ok_l_kind (T : Tx K mg) : FnOk P w K mg base CX0 4 T.f_l_kind T.d_l_kind ["_law_script", "_law_tape"] (spGen K 11 rStr) := by
  refine T.F_l_kind.ok sc_l_kind (fun vs H Q E h => ?_) (fun cdv A outer s H vs Q E hr h => ?_)
  · obtain ⟨a, tp, ns, k, rfl, _⟩ := h
    rfl
  · obtain ⟨a, tp, ns, k, rfl, hS, htp, hk, q⟩ := h
    refine ⟨_, (pss_one (ps_ret (pe_ix (ix_listK (K := K) rfl) (pe_lst (pa_cons pe_str (pa_cons (pe_call (ok_l_name T) (hr.mono (by omega)) rfl T.m_l_name T.F_l_name.kp T.B_l_name .nil pass0 (pa_cons (pv 0) (pa_cons (pv 1) pa_nil))) pa_nil))) (pe_call (ok_l_draw T) (hr.mono (by omega)) rfl T.m_l_draw T.F_l_draw.kp T.B_l_draw .nil pass0 (pa_cons (pv 0) (pa_cons (pv 1) (pa_cons pe_int pa_nil)))) (fun _ _ => rfl)))), ?_⟩
    walk_at "sy"
    refine ⟨a, tp, ns, k, rfl, hS, htp, by omega, fun H1 v1 k1 h1 hk1 t1 b1 => ?_⟩
    obtain ⟨s1, rfl, hs1⟩ := h1
    walk_at "sy"
    rename_i l H2 n2
    refine use_draw ((hS.but b1).but (fun x y e _ => n2.same _ _ e)) (n2.get t1) (by omega) (by decide) (fun H3 d c3 l3 u3 => ?_)
    have hl3 := c3.get n2.at_ (n2.ne t1)
    have b3 := (b1.more n2.same).then c3.but
    have : d = 0 ∨ d = 1 := by omega
    rcases this with rfl | rfl
    · walk_at "sy"
      exact q _ _ (k1 + 1) ⟨_, rfl, by first | exact .inl rfl | exact .inr hs1⟩ (by omega) c3.at_ b3
    · walk_at "sy"
      exact q _ _ (k1 + 1) ⟨_, rfl, by first | exact .inl rfl | exact .inr hs1⟩ (by omega) c3.at_ b3
def rPar (H : Hp) (v : V) : Prop := ∃ x y z : Str, IsD H (.tup [.str x, .str y, .str z]) v ∧ parS x y z
theorem ok_l_param (T : Tx K mg) : FnOk P w K mg base CX0 4 T.f_l_param T.d_l_param ["_law_script", "_law_tape"] (spGen K 21 rPar) := by
  refine T.F_l_param.ok sc_l_param (fun vs H Q E h => ?_) (fun cdv A outer s H vs Q E hr h => ?_)
  · obtain ⟨a, tp, ns, k, rfl, _⟩ := h
    rfl
  · obtain ⟨a, tp, ns, k, rfl, hS, htp, hk, q⟩ := h
    refine ⟨_, (pss_cons (ps_set (i := 2) sc_l_param.nd rfl (Or.inl rfl) (pe_ix (ix_listK (K := K) rfl) (pe_lst (pa_cons pe_str (pa_cons pe_str (pa_cons pe_str (pa_cons pe_str pa_nil))))) (pe_call (ok_l_draw T) (hr.mono (by omega)) rfl T.m_l_draw T.F_l_draw.kp T.B_l_draw .nil pass0 (pa_cons (pv 0) (pa_cons (pv 1) (pa_cons pe_int pa_nil)))) (fun _ _ => rfl)))
      (pss_cons (ps_if (pt_cmpR op_eq (pv 2) pe_str (nomark _))
        (pss_one (ps_ret (pe_tup (pa_cons (pv 2) (pa_cons (pe_call (ok_l_name T) (hr.mono (by omega)) rfl T.m_l_name T.F_l_name.kp T.B_l_name .nil pass0 (pa_cons (pv 0) (pa_cons (pv 1) pa_nil))) (pa_cons pe_str pa_nil))))))
        pss_nil)
      (pss_one (ps_ret (pe_tup (pa_cons (pv 2) (pa_cons (pe_call (ok_l_name T) (hr.mono (by omega)) rfl T.m_l_name T.F_l_name.kp T.B_l_name .nil pass0 (pa_cons (pv 0) (pa_cons (pv 1) pa_nil))) (pa_cons (pe_call (ok_l_name T) (hr.mono (by omega)) rfl T.m_l_name T.F_l_name.kp T.B_l_name .nil pass0 (pa_cons (pv 0) (pa_cons (pv 1) pa_nil))) pa_nil)))))))), ?_⟩
    walk_at "sy"
    rename_i l H1 n1
    have b1 : SameBut tp H H1 := fun x y e _ => n1.same _ _ e
    refine use_draw (hS.but b1) (n1.get htp) (by omega) (by decide) (fun H2 d c2 l2 u2 => ?_)
    have hl2 := c2.get n1.at_ (n1.ne htp)
    have b2 := b1.then c2.but
    obtain ⟨s0, hs0, hw0⟩ : ∃ s0 : Str, atI [V.str "num", V.str "box", V.str "look", V.str "hand"] d = some (.str s0) ∧ (s0 ≠ Str.ofString "num" → s0 ∈ [Str.ofString "box", Str.ofString "look", Str.ofString "hand"]) := by
      have : d = 0 ∨ d = 1 ∨ d = 2 ∨ d = 3 := by omega
      rcases this with rfl | rfl | rfl | rfl
      · exact ⟨_, rfl, fun h => absurd rfl h⟩
      · exact ⟨_, rfl, fun _ => by decide +kernel⟩
      · exact ⟨_, rfl, fun _ => by decide +kernel⟩
      · exact ⟨_, rfl, fun _ => by decide +kernel⟩
    walk_at "sy"
    by_cases e0 : s0 = Str.ofString "num"
    · refine iteDT e0 ?_
      walk_at "sy"
      refine ⟨a, tp, ns, k + 1, rfl, hS.but b2, c2.at_, by omega, fun H3 v3 k3 h3 hk3 t3 b3 => ?_⟩
      obtain ⟨s3, rfl, hs3⟩ := h3
      walk_at "sy"
      rename_i p4 H4 n4
      exact q _ _ k3 ⟨s0, s3, "num", ⟨p4, _, rfl, n4.at_, _, _, rfl, rfl, _, _, rfl, rfl, _, _, rfl, rfl, rfl⟩, .inl ⟨e0, hs3, rfl⟩⟩ (by omega) (n4.get t3) ((b2.then b3).more n4.same)
    · refine iteDF e0 ?_
      walk_at "sy"
      refine ⟨a, tp, ns, k + 1, rfl, hS.but b2, c2.at_, by omega, fun H3 v3 k3 h3 hk3 t3 b3 => ?_⟩
      obtain ⟨s3, rfl, hs3⟩ := h3
      walk_at "sy"
      refine ⟨a, tp, ns, k3, rfl, (hS.but b2).but b3, t3, by omega, fun H4 v4 k4 h4 hk4 t4 b4 => ?_⟩
      obtain ⟨s4, rfl, hs4⟩ := h4
      walk_at "sy"
      rename_i p5 H5 n5
      exact q _ _ k4 ⟨s0, s3, s4, ⟨p5, _, rfl, n5.at_, _, _, rfl, rfl, _, _, rfl, rfl, _, _, rfl, rfl, rfl⟩, .inr ⟨hw0 e0, hs3, hs4⟩⟩ (by omega) (n5.get t4) (((b2.then b3).then b4).more n5.same)
theorem backB {H Hx : Hp} {tp D : Addr} {o : HO} (b : SameBut tp H Hx) (ht : Hx tp = some o) (h : Hx D = none) : H D = none := by
  cases e : H D with
  | none => rfl
  | some u =>
    by_cases hz : D = tp
    · rw [hz, ht] at h
      cases h
    · rw [b _ _ e hz] at h
      cases h
def fieldD (d : Dt) : Prop := ∃ x y : Str, d = .tup [.str x, .str y] ∧ nameOk x ∧ kindS y
def parD (d : Dt) : Prop := ∃ x y z : Str, d = .tup [.str x, .str y, .str z] ∧ parS x y z
theorem field_small {ds : List Dt} (hl : ds.length ≤ 1000) (h : ∀ d ∈ ds, fieldD d ∨ parD d) : smallD (.tup ds) ∧ dpt (.tup ds) ≤ 2 := by
  refine tup_small hl fun d hd => ?_
  rcases h d hd with ⟨x, y, rfl, _⟩ | ⟨x, y, z, rfl, _⟩
  · exact ⟨⟨by simp, trivial, trivial, trivial⟩, Nat.le_refl _⟩
  · exact ⟨⟨by simp, trivial, trivial, trivial, trivial⟩, Nat.le_refl _⟩
def isR : El → Bool
  | .rcd _ _ => true
  | _ => false
def goodR : El → Prop
  | .rcd n fs => nameOk n ∧ 1 ≤ fs.length ∧ fs.length ≤ 4 ∧ ∀ d ∈ fs, fieldD d
  | _ => False
/-- a helper's head -/
def headH (n : Str) (ps : List Dt) (g : Option Str) : Prop := nameOk n ∧ ps.length ≤ 6 ∧ (∀ d ∈ ps, parD d) ∧ ∀ s, g = some s → kindS s
def okR (e : El) : Prop := isR e = true ∧ smallD (elD e) ∧ dpt (elD e) ≤ 3 ∧ goodR e
def okH : El → Prop
  | .hel n ps g rs => rs.length ≤ 1000 ∧ (∀ r ∈ rs, okG 3 r) ∧ smallD (elD (.hel n ps g rs)) ∧ dpt (elD (.hel n ps g rs)) ≤ 11 ∧ headH n ps g ∧ szDs (elDs rs) ≤ 800000 ∧ cntEs rs ≤ 20
  | _ => False
theorem okR_of {n : Str} {ds : List Dt} (hn : nameOk n) (h1 : 1 ≤ ds.length) (hl4 : ds.length ≤ 4) (h : ∀ d ∈ ds, fieldD d) : okR (.rcd n ds) := by
  have hl : ds.length ≤ 1000 := by omega
  have := field_small hl fun d hd => .inl (h d hd)
  refine ⟨rfl, ⟨by simp, trivial, trivial, this.1, trivial⟩, ?_, hn, h1, hl4, h⟩
  show 1 + max 0 (max 0 (max (dpt (.tup ds)) 0)) ≤ 3
  omega
theorem okH_of {n : Str} {ps : List Dt} {g : Option Str} {rs : List El} (hh : headH n ps g) (hr : rs.length ≤ 1000) (ok : ∀ r ∈ rs, okG 3 r) (hz : szDs (elDs rs) ≤ 800000) (hc : cntEs rs ≤ 20) : okH (.hel n ps g rs) := by
  have hl : ps.length ≤ 1000 := by have := hh.2.1; omega
  have h := hh.2.2.1
  have h1 := field_small hl fun d hd => .inr (h d hd)
  have h2 := els_small hr ok
  have h3 : smallD (optD g) ∧ dpt (optD g) = 0 := by cases g <;> exact ⟨trivial, rfl⟩
  refine ⟨hr, ok, ⟨by simp, trivial, trivial, h1.1, h3.1, h2.1, trivial⟩, ?_, hh, hz, hc⟩
  show 1 + max 0 (max 0 (max (dpt (.tup ps)) (max (dpt (optD g)) (max (dpt (.tup (elDs rs))) 0)))) ≤ 11
  omega
def rProg (H : Hp) (v : V) : Prop := ∃ (rs hs : List El), IsD H (.tup [.tup (elDs rs), .tup (elDs hs)]) v ∧ rs.length ≤ 3 ∧ 1 ≤ hs.length ∧ hs.length ≤ 3 ∧ (∀ e ∈ rs, okR e) ∧ ∀ e ∈ hs, okH e
theorem ok_l_program (T : Tx K mg) : FnOk P w K mg base CX0 11 T.f_l_program T.d_l_program ["_law_script", "_law_tape"] (spGen K 120000 rProg) := by
  refine T.F_l_program.ok sc_l_program (fun vs H Q E h => ?_) (fun cdv A outer s H vs Q E hr h => ?_)
  · obtain ⟨a, tp, ns, k, rfl, _⟩ := h
    rfl
  · obtain ⟨a, tp, ns, k, rfl, hS, htp, hk, q⟩ := h
    refine ⟨_, (pss_cons (ps_set (i := 2) sc_l_program.nd rfl (Or.inl rfl) (pe_lst pa_nil))
      (pss_cons (ps_for PassesOwn.never rfl (pi_range1 rfl T.n_range (pa_cons (pe_call (ok_l_draw T) (hr.mono (by omega)) rfl T.m_l_draw T.F_l_draw.kp T.B_l_draw .nil pass0 (pa_cons (pv 0) (pa_cons (pv 1) (pa_cons pe_int pa_nil)))) pa_nil)) (pg_name (i := 3) sc_l_program.nd rfl (Or.inl rfl))
        (pss_cons (ps_setLc (i := 4) (own := [("_law_k", 3)]) (g := gName 3) (tt := tYes) rfl sc_l_program.nd rfl rfl (sw_true rfl rfl rfl (by decide +kernel)) (pi_range1 rfl T.n_range (pa_cons (pe_op op_add pe_int (pe_call (ok_l_draw T) (hr.mono (by omega)) rfl T.m_l_draw T.F_l_draw.kp T.B_l_draw .nil pass0 (pa_cons (pv 0) (pa_cons (pv 1) (pa_cons pe_int pa_nil))))) pa_nil)) (blkOk_by (own := [("_law_k", 3)]) (N := ["_law_script", "_law_tape", "_law_records", "_law_k", "_law_fields", "_law_helpers", "_law_params", "_law_gives", "_law_name_here"]) (sc := defScope s_l_program) (by decide +kernel)) (fun _ _ _ _ _ => pg_name (i := 3) sc_l_program.nd rfl (Or.inl rfl)) (fun _ _ _ _ _ => pts_nil) (fun _ _ _ _ _ => (pe_tup (pa_cons (pe_call (ok_l_name T) (hr.mono (by omega)) rfl T.m_l_name T.F_l_name.kp T.B_l_name .nil pass0 (pa_cons (pv 0) (pa_cons (pv 1) pa_nil))) (pa_cons (pe_call (ok_l_kind T) (hr.mono (by omega)) rfl T.m_l_kind T.F_l_kind.kp T.B_l_kind .nil pass0 (pa_cons (pv 0) (pa_cons (pv 1) pa_nil))) pa_nil)))))
        (pss_one (ps_expr (pe_bm PySem.F.plainAttrs_list PySem.F.slot_list_append PySem.F.type_list_append mt_append (pv 2) (pa_cons (pe_tup (pa_cons pe_str (pa_cons (pe_call (ok_l_name T) (hr.mono (by omega)) rfl T.m_l_name T.F_l_name.kp T.B_l_name .nil pass0 (pa_cons (pv 0) (pa_cons (pv 1) pa_nil))) (pa_cons (pe_callTy (tuple_ofK (K := K) rfl) (by rfl) T.n_tuple PyProof.Rows.boot_tuple (pa_cons (pv 4) pa_nil)) pa_nil)))) pa_nil))))))
      (pss_cons (ps_set (i := 5) sc_l_program.nd rfl (Or.inl rfl) (pe_lst pa_nil))
      (pss_cons (ps_for PassesOwn.never rfl (pi_range1 rfl T.n_range (pa_cons (pe_op op_add pe_int (pe_call (ok_l_draw T) (hr.mono (by omega)) rfl T.m_l_draw T.F_l_draw.kp T.B_l_draw .nil pass0 (pa_cons (pv 0) (pa_cons (pv 1) (pa_cons pe_int pa_nil))))) pa_nil)) (pg_name (i := 3) sc_l_program.nd rfl (Or.inl rfl))
        (pss_cons (ps_setLc (i := 6) (own := [("_law_k", 3)]) (g := gName 3) (tt := tYes) rfl sc_l_program.nd rfl rfl (sw_true rfl rfl rfl (by decide +kernel)) (pi_range1 rfl T.n_range (pa_cons (pe_call (ok_l_draw T) (hr.mono (by omega)) rfl T.m_l_draw T.F_l_draw.kp T.B_l_draw .nil pass0 (pa_cons (pv 0) (pa_cons (pv 1) (pa_cons pe_int pa_nil)))) pa_nil)) (blkOk_by (own := [("_law_k", 3)]) (N := ["_law_script", "_law_tape", "_law_records", "_law_k", "_law_fields", "_law_helpers", "_law_params", "_law_gives", "_law_name_here"]) (sc := defScope s_l_program) (by decide +kernel)) (fun _ _ _ _ _ => pg_name (i := 3) sc_l_program.nd rfl (Or.inl rfl)) (fun _ _ _ _ _ => pts_nil) (fun _ _ _ _ _ => (pe_call (ok_l_param T) (hr.mono (by omega)) rfl T.m_l_param T.F_l_param.kp T.B_l_param .nil pass0 (pa_cons (pv 0) (pa_cons (pv 1) pa_nil)))))
        (pss_cons (ps_set (i := 7) sc_l_program.nd rfl (Or.inl rfl) (pe_ix (ix_listK (K := K) rfl) (pe_lst (pa_cons pe_non (pa_cons pe_str (pa_cons (pe_call (ok_l_name T) (hr.mono (by omega)) rfl T.m_l_name T.F_l_name.kp T.B_l_name .nil pass0 (pa_cons (pv 0) (pa_cons (pv 1) pa_nil))) pa_nil)))) (pe_call (ok_l_draw T) (hr.mono (by omega)) rfl T.m_l_draw T.F_l_draw.kp T.B_l_draw .nil pass0 (pa_cons (pv 0) (pa_cons (pv 1) (pa_cons pe_int pa_nil)))) (fun _ _ => rfl)))
        (pss_cons (ps_set (i := 8) sc_l_program.nd rfl (Or.inl rfl) (pe_call (ok_l_name T) (hr.mono (by omega)) rfl T.m_l_name T.F_l_name.kp T.B_l_name .nil pass0 (pa_cons (pv 0) (pa_cons (pv 1) pa_nil))))
        (pss_one (ps_expr (pe_bm PySem.F.plainAttrs_list PySem.F.slot_list_append PySem.F.type_list_append mt_append (pv 5) (pa_cons (pe_tup (pa_cons pe_str (pa_cons (pv 8) (pa_cons (pe_callTy (tuple_ofK (K := K) rfl) (by rfl) T.n_tuple PyProof.Rows.boot_tuple (pa_cons (pv 6) pa_nil)) (pa_cons (pv 7) (pa_cons (pe_call (ok_l_rows T 3) (hr.mono (by omega)) rfl T.m_l_rows T.F_l_rows.kp T.B_l_rows .nil pass0 (pa_cons (pv 0) (pa_cons (pv 1) (pa_cons pe_int (pa_cons (pe_lst (pa_cons pe_int pa_nil)) pa_nil))))) pa_nil)))))) pa_nil))))))))
      (pss_one (ps_ret (pe_tup (pa_cons (pe_callTy (tuple_ofK (K := K) rfl) (by rfl) T.n_tuple PyProof.Rows.boot_tuple (pa_cons (pv 2) pa_nil)) (pa_cons (pe_callTy (tuple_ofK (K := K) rfl) (by rfl) T.n_tuple PyProof.Rows.boot_tuple (pa_cons (pv 5) pa_nil)) pa_nil))))))))), ?_⟩
    walk_at "sy"
    rename_i rl H1 n1
    have fR := n1.free
    have neR : rl ≠ tp := n1.ne htp
    have b1 : SameBut tp H H1 := fun x y e _ => n1.same _ _ e
    refine use_draw (hS.but b1) (n1.get htp) (by omega) (by decide) (fun H2 d2 c2 l2 u2 => ?_)
    obtain ⟨n, rfl⟩ : ∃ n : Nat, d2 = n := Int.eq_ofNat_of_zero_le l2
    have b2 := b1.then c2.but
    have hrl2 := c2.get n1.at_ neR
    walk_at "sy"
    have kB : ∀ {A B : Hp} {z : Nat}, SameBut tp A B → A tp = some (.lst [.int (z : Int)]) → Keep A B := fun {A B z} b h p o e st => b p o e (fun y => by rw [y, h] at e; cases e; exact st)
    refine k_forR (fun i σ Hx => ∃ (v3 v4 v5 v6 v7 v8 : Option V) (k1 : Nat) (us : List V) (es : List El), σ = [some (.ref a), some (.ref tp), some (.ref rl), v3, v4, v5, v6, v7, v8] ∧ SameBut tp H Hx ∧ Hx tp = some (.lst [.int (k1 : Int)]) ∧ k1 ≤ k + 1 + 100 * i ∧ Hx rl = some (.lst us) ∧ IsDs Hx (elDs es) us ∧ es.length ≤ i ∧ ∀ e ∈ es, okR e)
      ⟨none, none, none, none, none, none, k + 1, [], [], rfl, b2, c2.at_, by omega, hrl2, rfl, Nat.le_refl _, fun e h => absurd h (by simp)⟩ ?_ ?_
    · rintro i σ Hx hi ⟨v3, v4, v5, v6, v7, v8, k1, us, es, rfl, bx, htx, hk1, hlx, hus, hel, hok⟩
      have hi4 : i < 4 := by omega
      have hul : us.length ≤ 4 := by rw [hus.len, elDs_len]; omega
      walk_at "sy"
      refine use_draw (hS.but bx) htx (by omega) (by decide) (fun H3 d3 c3 l3 u3 => ?_)
      obtain ⟨m, rfl⟩ : ∃ n : Nat, d3 = n := Int.eq_ofNat_of_zero_le l3
      have b3 := bx.then c3.but
      have hl3 := c3.get hlx neR
      have hus3 := hus.keep c3.keepL
      walk_at "sy"
      refine k_lcR (fun D j Hy => SameBut tp H Hy ∧ Keep H3 Hy ∧ Hy rl = some (.lst us) ∧ ∃ (k4 : Nat) (ws : List V) (ds : List Dt), Hy tp = some (.lst [.int (k4 : Int)]) ∧ k4 ≤ k1 + 1 + 21 * j ∧ Hy D = some (.lst ws) ∧ IsDs Hy ds ws ∧ ds.length = j ∧ ∀ d ∈ ds, fieldD d) (fun D Hy n => ⟨b3.more n.same, n.keep, n.get hl3, k1 + 1, [], [], n.get c3.at_, by omega, n.at_, rfl, rfl, fun d h => absurd h (by simp)⟩) ?_ ?_
      · rintro D hD j Hy hj ⟨by_, ky, hly, k4, ws, ds, ty, hk4, hDy, hws, hdl, hdf⟩
        have hj4 : j < 4 := by omega
        have fD : H D = none := backB b3 c3.at_ hD
        have nD : D ≠ tp := (ne_of_none c3.at_ hD).symm
        have nR : D ≠ rl := (ne_of_none hl3 hD).symm
        have hwl : ws.length ≤ 4 := by rw [hws.len]; omega
        walk_at "sy"
        refine ⟨a, tp, ns, k4, rfl, hS.but by_, ty, by omega, fun H5 v5 k5 h5 hk5 t5 b5 => ?_⟩
        obtain ⟨s5, rfl, hs5⟩ := h5
        have by5 := by_.then b5
        walk_at "sy"
        refine ⟨a, tp, ns, k5, rfl, hS.but by5, t5, by omega, fun H6 v6 k6 h6 hk6 t6 b6 => ?_⟩
        obtain ⟨s6, rfl, hs6⟩ := h6
        have b56 := b5.then b6
        have hD6 := b56 _ _ hDy nD
        walk_at "sy"
        rename_i p7 H7 n7 H8 c8
        have k8 : Keep Hy H8 := (kB b56 ty).trans (n7.keep.trans c8.keepL)
        refine ⟨((by_.then b56).more n7.same).own c8 fD, ky.trans k8, c8.get (n7.get (b56 _ _ hly neR)) nR.symm, k6, _, ds ++ [.tup [.str s5, .str s6]], c8.get (n7.get t6) nD.symm, by omega, c8.at_, ?_, by simp [hdl], fun d hd => ?_⟩
        · have r7 : IsD H8 (.tup [.str s5, .str s6]) (.ref p7) := ⟨p7, _, rfl, c8.keepL _ _ n7.at_ trivial, _, _, rfl, rfl, _, _, rfl, rfl, rfl⟩
          exact IsDs.snoc r7 (hws.keep k8)
        · rcases List.mem_append.mp hd with hd | hd
          · exact hdf d hd
          · obtain rfl := List.mem_singleton.mp hd
            exact ⟨_, _, rfl, hs5, hs6⟩
      · rintro D hD Hy ⟨by_, ky, hly, k4, ws, ds, ty, hk4, hDy, hws, hdl, hdf⟩
        have hj4 : ds.length ≤ 4 := by omega
        have hus4 := hus3.keep ky
        walk_at "sy"
        refine ⟨a, tp, ns, k4, rfl, hS.but by_, ty, by omega, fun H5 v5 k5 h5 hk5 t5 b5 => ?_⟩
        obtain ⟨s5, rfl, hs5⟩ := h5
        have nD : D ≠ tp := (ne_of_none c3.at_ hD).symm
        have hl5 := b5 _ _ hly neR
        have hD5 := b5 _ _ hDy nD
        have k5' := kB b5 ty
        walk_at "sy"
        rename_i t6 z6 H6 n6 p7 H7 n7 H8 c8
        have k8 : Keep H5 H8 := n6.keep.trans (n7.keep.trans c8.keepL)
        refine ⟨_, _, _, _, _, _, k5, _, es ++ [.rcd s5 ds], rfl, ((by_.then b5).more (n6.same.trans n7.same)).own c8 fR, c8.get (n7.get (n6.get t5)) neR.symm, by omega, c8.at_, ?_, by rw [List.length_append]; simp; omega, fun e he => ?_⟩
        · rw [elDs_snoc]
          have r7 : IsD H8 (elD (.rcd s5 ds)) (.ref p7) := ⟨p7, _, rfl, c8.keepL _ _ n7.at_ trivial, _, _, rfl, rfl, _, _, rfl, rfl, _, _, rfl, ⟨t6, ws, rfl, c8.keepL _ _ (n7.get n6.at_) trivial, (hws.keep k5').keep k8⟩, rfl⟩
          exact IsDs.snoc r7 ((hus4.keep k5').keep k8)
        · rcases List.mem_append.mp he with he | he
          · exact hok e he
          · obtain rfl := List.mem_singleton.mp he
            exact okR_of hs5 (by omega) (by omega) hdf
    · rintro σ Hx ⟨v3, v4, v5, v6, v7, v8, k1, us, es, rfl, bx, htx, hk1, hlx, hus, hel, hok⟩
      simp only [Int.toNat_natCast] at hk1 hel
      walk_at "sy"
      rename_i hl H3 n3
      have b3 := bx.more n3.same
      have fHl : H hl = none := backB bx htx n3.free
      have neH : hl ≠ tp := n3.ne htx
      have neRH : hl ≠ rl := n3.ne hlx
      have hl3 := n3.get hlx
      have hus3 := hus.keep n3.keep
      refine use_draw (hS.but b3) (n3.get htx) (by omega) (by decide) (fun H4 d4 c4 l4 u4 => ?_)
      obtain ⟨m4, rfl⟩ : ∃ n : Nat, d4 = n := Int.eq_ofNat_of_zero_le l4
      have b4 := b3.then c4.but
      have hl4 := c4.get hl3 neR
      have hh4 := c4.get n3.at_ neH
      have hus4 := hus3.keep c4.keepL
      walk_at "sy"
      refine k_forR (fun i σ Hx => ∃ (v3 v4 v6 v7 v8 : Option V) (k2 : Nat) (us2 : List V) (hs : List El), σ = [some (.ref a), some (.ref tp), some (.ref rl), v3, v4, some (.ref hl), v6, v7, v8] ∧ SameBut tp H Hx ∧ Hx tp = some (.lst [.int (k2 : Int)]) ∧ k2 ≤ k1 + 1 + 23000 * i ∧ Hx rl = some (.lst us) ∧ IsDs Hx (elDs es) us ∧ Hx hl = some (.lst us2) ∧ IsDs Hx (elDs hs) us2 ∧ hs.length = i ∧ ∀ e ∈ hs, okH e)
        ⟨_, _, _, _, _, k1 + 1, [], [], rfl, b4, c4.at_, by omega, hl4, hus4, hh4, rfl, rfl, fun e h => absurd h (by simp)⟩ ?_ ?_
      · rintro i σ Hx hi ⟨v3, v4, v6, v7, v8, k2, us2, hs, rfl, bx, htx, hk2, hlx, hus, hhx, hus2, hhl, hoh⟩
        have hi3 : i < 3 := by omega
        have hu2l : us2.length ≤ 3 := by rw [hus2.len, elDs_len]; omega
        walk_at "sy"
        refine use_draw (hS.but bx) htx (by omega) (by decide) (fun H5 d5 c5 l5 u5 => ?_)
        obtain ⟨m5, rfl⟩ : ∃ n : Nat, d5 = n := Int.eq_ofNat_of_zero_le l5
        have b5 := bx.then c5.but
        have hl5 := c5.get hlx neR
        have hh5 := c5.get hhx neH
        have hus5 := hus.keep c5.keepL
        have hus25 := hus2.keep c5.keepL
        walk_at "sy"
        refine k_lcR (fun D j Hy => SameBut tp H Hy ∧ Keep H5 Hy ∧ Hy rl = some (.lst us) ∧ Hy hl = some (.lst us2) ∧ ∃ (k4 : Nat) (ws : List V) (ds : List Dt), Hy tp = some (.lst [.int (k4 : Int)]) ∧ k4 ≤ k2 + 1 + 21 * j ∧ Hy D = some (.lst ws) ∧ IsDs Hy ds ws ∧ ds.length = j ∧ ∀ d ∈ ds, parD d) (fun D Hy n => ⟨b5.more n.same, n.keep, n.get hl5, n.get hh5, k2 + 1, [], [], n.get c5.at_, by omega, n.at_, rfl, rfl, fun d h => absurd h (by simp)⟩) ?_ ?_
        · rintro D hD j Hy hj ⟨by_, ky, hly, hhy, k4, ws, ds, ty, hk4, hDy, hws, hdl, hdf⟩
          have hj6 : j < 7 := by omega
          have fD : H D = none := backB b5 c5.at_ hD
          have nD : D ≠ tp := (ne_of_none c5.at_ hD).symm
          have nR : D ≠ rl := (ne_of_none hl5 hD).symm
          have nH : D ≠ hl := (ne_of_none hh5 hD).symm
          have hwl : ws.length ≤ 7 := by rw [hws.len]; omega
          walk_at "sy"
          refine ⟨a, tp, ns, k4, rfl, hS.but by_, ty, by omega, fun H6 v6 k6 h6 hk6 t6 b6 => ?_⟩
          obtain ⟨x6, y6, z6, h6, hp6⟩ := h6
          have hD6 := b6 _ _ hDy nD
          walk_at "sy"
          rename_i H8 c8
          have k8 : Keep Hy H8 := (kB b6 ty).trans c8.keepL
          refine ⟨(by_.then b6).own c8 fD, ky.trans k8, c8.get (b6 _ _ hly neR) nR.symm, c8.get (b6 _ _ hhy neH) nH.symm, k6, _, ds ++ [.tup [.str x6, .str y6, .str z6]], c8.get t6 nD.symm, by omega, c8.at_, ?_, by simp [hdl], fun d hd => ?_⟩
          · exact IsDs.snoc (h6.keep c8.keepL) (hws.keep k8)
          · rcases List.mem_append.mp hd with hd | hd
            · exact hdf d hd
            · obtain rfl := List.mem_singleton.mp hd
              exact ⟨_, _, _, rfl, hp6⟩
        · rintro D hD Hy ⟨by_, ky, hly, hhy, k4, ws, ds, ty, hk4, hDy, hws, hdl, hdf⟩
          have hj6 : ds.length ≤ 6 := by omega
          have hus6 := hus5.keep ky
          have hus26 := hus25.keep ky
          have nD : D ≠ tp := (ne_of_none c5.at_ hD).symm
          walk_at "sy"
          refine ⟨a, tp, ns, k4, rfl, hS.but by_, ty, by omega, fun H6 v6 k6 h6 hk6 t6 b6 => ?_⟩
          obtain ⟨s6, rfl, hs6⟩ := h6
          walk_at "sy"
          rename_i l7 H7 n7
          have b7 := (by_.then b6).more n7.same
          refine use_draw (hS.but b7) (n7.get t6) (by omega) (by decide) (fun H8 d8 c8 l8 u8 => ?_)
          have b8 := b7.then c8.but
          have hl8 := c8.get n7.at_ (n7.ne t6)
          obtain ⟨g, vg, hg8, hvg, hkg⟩ : ∃ (g : Option Str) (vg : V), atI [V.non, V.str "num", V.str s6] d8 = some vg ∧ (∀ H, IsD H (optD g) vg) ∧ ∀ s, g = some s → kindS s := by
            have : d8 = 0 ∨ d8 = 1 ∨ d8 = 2 := by omega
            rcases this with rfl | rfl | rfl
            · exact ⟨none, _, rfl, fun _ => rfl, fun s h => by cases h⟩
            · exact ⟨some _, _, rfl, fun _ => rfl, fun s h => by cases h; exact .inl rfl⟩
            · exact ⟨some _, _, rfl, fun _ => rfl, fun s h => by cases h; exact .inr hs6⟩
          walk_at "sy"
          refine ⟨a, tp, ns, k6 + 1, rfl, hS.but b8, c8.at_, by omega, fun H9 v9 k9 h9 hk9 t9 b9 => ?_⟩
          obtain ⟨s9, rfl, hs9⟩ := h9
          have b49 : SameBut tp Hy H9 := ((b6.more n7.same).then c8.but).then b9
          have hD9 := b49 _ _ hDy nD
          have hly9 := b49 _ _ hly neR
          have hhy9 := b49 _ _ hhy neH
          have k49 := kB b49 ty
          walk_at "sy"
          rename_i t10 z10 H10 n10 rm H11 n11
          have b89 := (b8.then b9).more n10.same
          have b11 := b89.more n11.same
          have t10' := n10.get t9
          have fRm : H rm = none := backB b89 t10' n11.free
          have ner := (n11.ne (n10.get hly9)).symm
          have neh := (n11.ne (n10.get hhy9)).symm
          refine ⟨a, tp, rm, ns, k9, 20, rfl, by decide, by decide, n11.ne t10', Stays2.new (hS.but b89) n11, n11.get t10', n11.at_, by omega, fun H12 v12 k12 ρ12 es12 h12 hρ hk12 hz12 hc12 t12 r12 b12 => ?_⟩
          have k1112 := b12.keep (n11.get t10') n11.at_
          have b12' := b11.two b12 fRm
          have hl12 := b12 _ _ (n11.get (n10.get hly9)) neR ner
          have hh12 := b12 _ _ (n11.get (n10.get hhy9)) neH neh
          have ht12 := k1112 _ _ (n11.get n10.at_) trivial
          have ky12 : Keep Hy H12 := k49.trans (n10.keep.trans (n11.keep.trans k1112))
          obtain ⟨q12, us12, rfl, hq12, hus12, hel12, ok12⟩ := h12
          walk_at "sy"
          rename_i p13 H13 n13 H14 c14
          have k14 : Keep H12 H14 := n13.keep.trans c14.keepL
          refine ⟨_, _, _, _, _, k12, _, hs ++ [.hel s9 ds g es12], rfl, (b12'.more n13.same).own c14 fHl, c14.get (n13.get t12) neH.symm, by omega, c14.get (n13.get hl12) neRH.symm, (hus6.keep ky12).keep k14, c14.at_, ?_, by rw [List.length_append]; simp; omega, fun e he => ?_⟩
          · rw [elDs_snoc]
            have r13 : IsD H14 (elD (.hel s9 ds g es12)) (.ref p13) := ⟨p13, _, rfl, c14.keepL _ _ n13.at_ trivial, _, _, rfl, rfl, _, _, rfl, rfl, _, _, rfl, ⟨t10, ws, rfl, k14 _ _ ht12 trivial, (hws.keep ky12).keep k14⟩, _, _, rfl, hvg _, _, _, rfl, ⟨q12, us12, rfl, k14 _ _ hq12 trivial, hus12.keep k14⟩, rfl⟩
            exact IsDs.snoc r13 ((hus26.keep ky12).keep k14)
          · rcases List.mem_append.mp he with he | he
            · exact hoh e he
            · obtain rfl := List.mem_singleton.mp he
              exact okH_of ⟨hs9, by omega, hdf, hkg⟩ (by omega) ok12 (by omega) (by omega)
      · rintro σ Hx ⟨v3, v4, v6, v7, v8, k2, us2, hs, rfl, bx, htx, hk2, hlx, hus, hhx, hus2, hhl, hoh⟩
        walk_at "sy"
        rename_i t1 z1 Ha na t2 z2 Hb nb p Hc nc
        have z3 := na.same.trans (nb.same.trans nc.same)
        exact q Hc _ k2 ⟨es, hs, ⟨p, _, rfl, nc.at_, _, _, rfl, ⟨t1, us, rfl, nc.get (nb.get na.at_), hus.keep (Keep.of z3)⟩, _, _, rfl, ⟨t2, us2, rfl, nc.get nb.at_, hus2.keep (Keep.of z3)⟩, rfl⟩, by omega, by omega, by omega, hok, hoh⟩ (by omega) (z3 _ _ htx) (bx.more z3)
end
end
/-! ### programs made -/
section
variable {P : Program} {w : World} {K : PySem.W.Frag} {mg : Str → Option Value} {base : Heap}
structure ProgAtE (T : Tx K mg) (H : Hp) (v : Addr) (rs hs : List El) : Prop where
  h : ∃ (dx q1 q2 : Addr) (us1 us2 : List V), H v = some (.ins T.a_Program dx (fsProgram (.ref q1) (.ref q2))) ∧ H q1 = some (.tup us1) ∧ ElsAt T H rs us1 ∧ H q2 = some (.tup us2) ∧ ElsAt T H hs us2
theorem ProgAtE.keep {T : Tx K mg} {H H' : Hp} {v : Addr} {rs hs : List El} (k : Keep H H') (h : ProgAtE T H v rs hs) : ProgAtE T H' v rs hs := by
  obtain ⟨dx, q1, q2, us1, us2, g1, g2, g3, g4, g5⟩ := h
  exact ⟨dx, q1, q2, us1, us2, k _ _ g1 trivial, k _ _ g2 trivial, g3.keep k, k _ _ g4 trivial, g5.keep k⟩
def spMadeP (T : Tx K mg) : Sp := fun vs H Q _ => ∃ (v : V) (rs hs : List El), vs = [v] ∧ IsD H (.tup [.tup (elDs rs), .tup (elDs hs)]) v ∧ rs.length ≤ 10 ∧ hs.length ≤ 10 ∧ (∀ e ∈ rs, okR e) ∧ (∀ e ∈ hs, okH e) ∧ ∀ H' x, Same H H' → ProgAtE T H' x rs hs → Q (.ref x) H'
theorem ok_l_made_program (T : Tx K mg) : FnOk P w K mg base CX0 22 T.f_l_made_program T.d_l_made_program ["_law_told"] (spMadeP T) := by
  refine T.F_l_made_program.ok sc_l_made_program (fun vs H Q E h => ?_) (fun cdv A_ outer s_ H vs Q E hr h => ?_)
  · obtain ⟨v, rs, hs, rfl, _⟩ := h
    rfl
  · obtain ⟨v, rs, hs, rfl, hv, hrl, hhl, hor, hoh, q⟩ := h
    obtain ⟨p, _, rfl, hp, hvs⟩ := hv
    obtain ⟨_, _, rfl, ⟨q1, us1, rfl, hq1, hu1⟩, hvs⟩ := hvs
    obtain ⟨_, _, rfl, ⟨q2, us2, rfl, hq2, hu2⟩, hvs⟩ := hvs
    obtain rfl : _ = _ := hvs
    refine ⟨_, (pss_cons (ps_setLc (i := 1) (own := [("_law_record", 4)]) (g := gName 4) (tt := tYes) rfl sc_l_made_program.nd rfl rfl (sw_true rfl rfl rfl (by decide +kernel)) (pi_tupK (K := K) rfl (pe_ix (ix_tupK (K := K) rfl) (pv 0) pe_int (fun _ _ => rfl))) (blkOk_by (own := [("_law_record", 4)]) (N := ["_law_told", "_law_records", "_law_helpers", "_law_one", "_law_record", "_law_row"]) (sc := defScope s_l_made_program) (by decide +kernel)) (fun _ _ _ _ _ => pg_name (i := 4) sc_l_made_program.nd rfl (Or.inl rfl)) (fun _ _ _ _ _ => pts_nil) (fun _ _ _ _ _ => (pe_make T.Mk_Record (ok_Record_init T) (hr.mono (by omega)) rfl T.c_Record T.B_Record_init .nil pass0 (pa_cons (pe_ix (ix_tupK (K := K) rfl) (pv 4) pe_int (fun _ _ => rfl)) (pa_cons (pe_ix (ix_tupK (K := K) rfl) (pv 4) pe_int (fun _ _ => rfl)) pa_nil)))))
      (pss_cons (ps_set (i := 2) sc_l_made_program.nd rfl (Or.inl rfl) (pe_lst pa_nil))
      (pss_cons (ps_for PassesOwn.never rfl (pi_tupK (K := K) rfl (pe_ix (ix_tupK (K := K) rfl) (pv 0) pe_int (fun _ _ => rfl))) (pg_name (i := 3) sc_l_made_program.nd rfl (Or.inl rfl))
        (pss_one (ps_expr (pe_bm PySem.F.plainAttrs_list PySem.F.slot_list_append PySem.F.type_list_append mt_append (pv 2) (pa_cons (pe_make T.Mk_Helper (ok_Helper_init T) (hr.mono (by omega)) rfl T.c_Helper T.B_Helper_init .nil pass0 (pa_cons (pe_ix (ix_tupK (K := K) rfl) (pv 3) pe_int (fun _ _ => rfl)) (pa_cons (pe_ix (ix_tupK (K := K) rfl) (pv 3) pe_int (fun _ _ => rfl)) (pa_cons (pe_ix (ix_tupK (K := K) rfl) (pv 3) pe_int (fun _ _ => rfl)) (pa_cons (pe_callTy (tuple_ofK (K := K) rfl) (by rfl) T.n_tuple PyProof.Rows.boot_tuple (pa_cons (pe_lc (own := [("_law_row", 5)]) (g := gName 5) (tt := tYes) rfl sc_l_made_program.nd (pi_tupK (K := K) rfl (pe_ix (ix_tupK (K := K) rfl) (pv 3) pe_int (fun _ _ => rfl))) (blkOk_by (own := [("_law_row", 5)]) (N := ["_law_told", "_law_records", "_law_helpers", "_law_one", "_law_record", "_law_row"]) (sc := defScope s_l_made_program) (by decide +kernel)) (fun _ _ _ _ _ => pg_name (i := 5) sc_l_made_program.nd rfl (Or.inl rfl)) (fun _ _ _ _ _ => pts_nil) (fun _ _ _ _ _ => (pe_call (ok_l_made T 3) (hr.mono (by omega)) rfl T.m_l_made T.F_l_made.kp T.B_l_made .nil pass0 (pa_cons (pv 5) pa_nil)))) pa_nil)) pa_nil))))) pa_nil)))))
      (pss_one (ps_ret (pe_make T.Mk_Program (ok_Program_init T) (hr.mono (by omega)) rfl T.c_Program T.B_Program_init .nil pass0 (pa_cons (pe_callTy (tuple_ofK (K := K) rfl) (by rfl) T.n_tuple PyProof.Rows.boot_tuple (pa_cons (pv 1) pa_nil)) (pa_cons (pe_callTy (tuple_ofK (K := K) rfl) (by rfl) T.n_tuple PyProof.Rows.boot_tuple (pa_cons (pv 2) pa_nil)) pa_nil)))))))), ?_⟩
    have hul1 : us1.length = rs.length := by rw [hu1.len, elDs_len]
    have hul2 : us2.length = hs.length := by rw [hu2.len, elDs_len]
    walk_at "sy"
    refine k_lcT us1 (fun D i Hy => Same H Hy ∧ ∃ ws, Hy D = some (.lst ws) ∧ ElsAt T Hy (rs.take i) ws ∧ ws.length = i) (fun D Hy n => ⟨n.same, [], n.at_, rfl, rfl⟩) (fun D i Hy _ h => SqT.of (h.1 _ _ hq1)) ?_ ?_
    · rintro D hD i x Hy hx ⟨sy, ws, hDy, hws, hwl⟩
      obtain ⟨dd, hd1, hd2⟩ := hu1.at hx
      obtain ⟨e, he1, rfl⟩ := elD_at hd1
      have hi := (List.getElem?_eq_some_iff.mp hx).1
      have hwl2 : ws.length ≤ 10 := by omega
      have hoe := hor e (List.mem_of_getElem? he1)
      have hd2 := hd2.keep (Keep.of sy)
      cases e with
      | rcd n fs =>
        obtain ⟨px, _, rfl, hpx, hvs⟩ := hd2
        obtain ⟨_, _, rfl, hw, hvs⟩ := hvs
        obtain rfl : _ = V.str "record" := hw
        obtain ⟨v1, _, rfl, h1, hvs⟩ := hvs
        obtain rfl : v1 = _ := h1
        obtain ⟨v2, _, rfl, h2, hvs⟩ := hvs
        obtain ⟨q3, us3, rfl, hq3, hu3⟩ := h2
        obtain rfl : _ = _ := hvs
        walk_at "sy"
        rename_i xr dx H3 n3 H4 c4
        have k4 : Keep Hy H4 := n3.keep.trans c4.keepL
        refine ⟨c4.sameOwn (sy.trans n3.same) hD, ws ++ [.ref xr], c4.at_, ?_, by simp [hwl]⟩
        rw [take_snoc he1]
        have r4 : ElAt T H4 (.rcd n fs) (.ref xr) := ⟨xr, dx, .ref q3, rfl, c4.getK n3.at_ rfl, ⟨q3, us3, rfl, k4 _ _ hq3 trivial, hu3.keep k4⟩⟩
        exact ElsAt.snoc r4 (hws.keep k4)
      | _ => exact absurd hoe.1 (by simp [isR])
    · rintro D hD Hy ⟨sy, ws, hDy, hws, hwl⟩
      rw [hul1, List.take_length] at hws
      have hpy := sy _ _ hp
      have hq2y := sy _ _ hq2
      walk_at "sy"
      rename_i L H1 n1
      have s1 : Same H H1 := sy.trans n1.same
      have fL : H L = none := sy.free n1.free
      have nLD : L ≠ D := n1.ne hDy
      have hws1 := hws.keep n1.keep
      refine k_forT us2 (fun i σ Hx => ∃ (v3 v4 v5 : Option V) (us : List V), σ = [some (.ref p), some (.ref D), some (.ref L), v3, v4, v5] ∧ Same H Hx ∧ Keep H1 Hx ∧ Hx D = some (.lst ws) ∧ Hx L = some (.lst us) ∧ ElsAt T Hx (hs.take i) us ∧ us.length = i) ⟨none, none, none, [], rfl, s1, fun _ _ e _ => e, n1.get hDy, n1.at_, rfl, rfl⟩ (fun i σ Hx _ h => ?_) ?_ ?_
      · obtain ⟨v3, v4, v5, us, rfl, sx, _⟩ := h
        exact SqT.of (sx _ _ hq2)
      · rintro i x σ Hx hx ⟨v3, v4, v5, us, rfl, sx, kx, hDx, hLx, hux, hul⟩
        obtain ⟨dd, hd1, hd2⟩ := hu2.at hx
        obtain ⟨e, he1, rfl⟩ := elD_at hd1
        have hi := (List.getElem?_eq_some_iff.mp hx).1
        have hul10 : us.length ≤ 10 := by omega
        have hoe := hoh e (List.mem_of_getElem? he1)
        have hd2 := hd2.keep (Keep.of sx)
        cases e with
        | hel n ps g es =>
          obtain ⟨hel, hokG, _⟩ := hoe
          obtain ⟨px, _, rfl, hpx, hvs⟩ := hd2
          obtain ⟨_, _, rfl, hw, hvs⟩ := hvs
          obtain rfl : _ = V.str "helper" := hw
          obtain ⟨v1, _, rfl, h1, hvs⟩ := hvs
          obtain rfl : v1 = _ := h1
          obtain ⟨v2, _, rfl, h2, hvs⟩ := hvs
          obtain ⟨q3, us3, rfl, hq3, hu3⟩ := h2
          obtain ⟨vg, _, rfl, hg, hvs⟩ := hvs
          obtain ⟨v4', _, rfl, h4, hvs⟩ := hvs
          obtain ⟨q4, us4, rfl, hq4, hu4⟩ := h4
          obtain rfl : _ = _ := hvs
          have hul4 : us4.length = es.length := by rw [hu4.len, elDs_len]
          walk_at "sy"
          have hM : ∀ e ∈ es, okM 3 e := fun e m => (hokG e m).1
          refine k_lcT us4 (fun D i Hy => Same Hx Hy ∧ ∃ ws, Hy D = some (.lst ws) ∧ ElsAt T Hy (es.take i) ws ∧ ws.length = i) (fun D Hy n => ⟨n.same, [], n.at_, rfl, rfl⟩) (fun D i Hy _ h => SqT.of (h.1 _ _ hq4)) ?_ ?_
          · rintro D hD i x Hy hx ⟨sy, ws, hDy, hws, hwl⟩
            obtain ⟨dd, hd1, hd2⟩ := hu4.at hx
            obtain ⟨r, hr1, rfl⟩ := elD_at hd1
            have hi := (List.getElem?_eq_some_iff.mp hx).1
            have hul := hu4.len
            rw [elDs_len] at hul
            have hwl2 : ws.length ≤ 1000 := by omega
            walk_at "sy"
            refine ⟨x, r, rfl, hd2.keep (Keep.of sy), hM r (List.mem_of_getElem? hr1), fun H2 v2 s2 hv => ?_⟩
            have hD2 := s2 _ _ hDy
            walk_at "sy"
            rename_i H4 c4
            refine ⟨c4.sameOwn (sy.trans s2) hD, ws ++ [v2], c4.at_, ?_, by simp [hwl]⟩
            rw [take_snoc hr1]
            exact ElsAt.snoc (hv.keep c4.keepL) ((hws.keep (Keep.of s2)).keep c4.keepL)
          · rintro D2 hD2 Hz ⟨sz, ws2, hDz, hws2, hwl2⟩
            rw [hul4, List.take_length] at hws2
            have hDDz := sz _ _ hDx
            have hLz := sz _ _ hLx
            have hpxz := sz _ _ hpx
            have hq3z := sz _ _ hq3
            walk_at "sy"
            rename_i t3 z3 H3 n3 hx dh H4 n4 H5 c5
            have k35 : Keep H3 H5 := n4.keep.trans c5.keepL
            have kx5 : Keep Hx H5 := (Keep.of sz).trans (n3.keep.trans k35)
            have r5 : ElAt T H5 (.hel n ps g es) (.ref hx) := ⟨hx, dh, t3, .ref q3, vg, ws2, rfl, c5.getK n4.at_ rfl, ⟨q3, us3, rfl, kx5 _ _ hq3 trivial, hu3.keep kx5⟩, hg.keep kx5, k35 _ _ n3.at_ trivial, (hws2.keep n3.keep).keep k35⟩
            refine ⟨_, _, _, _, rfl, c5.sameOwn (sx.trans (sz.trans (n3.same.trans n4.same))) fL, kx.trans kx5, c5.get (n4.get (n3.get hDDz)) nLD.symm, c5.at_, ?_, by simp [hul]⟩
            rw [take_snoc he1]
            exact ElsAt.snoc r5 (hux.keep kx5)
        | _ => exact hoe.elim
      · rintro σ Hx ⟨v3, v4, v5, us, rfl, sx, kx, hDx, hLx, hux, hul⟩
        rw [hul2, List.take_length] at hux
        have hwsx := hws1.keep kx
        walk_at "sy"
        rename_i t1 z1 Ha na t2 z2 Hb nb xp dp Hc nc
        have kc : Keep Hx Hc := na.keep.trans (nb.keep.trans nc.keep)
        exact q Hc xp (sx.trans (na.same.trans (nb.same.trans nc.same))) ⟨dp, t1, t2, ws, us, nc.at_, nc.get (nb.get na.at_), hwsx.keep kc, nc.get nb.at_, hux.keep kc⟩
end
section
variable {P : Program} {w : World} {K : PySem.W.Frag} {mg : Str → Option Value} {base : Heap}
def tTold (T : Tx K mg) : TE := tAlt (tMeth T.a_SetRow "told" (spToldSetRow T) [] E0 (tVar 0) tNil) (tAlt (tMeth T.a_MakeRow "told" (spToldMakeRow T) [] E0 (tVar 0) tNil) (tAlt (tMeth T.a_NoneRow "told" (spToldNoneRow T) [] E0 (tVar 0) tNil) (tAlt (tMeth T.a_GiveRow "told" (spToldGiveRow T) [] E0 (tVar 0) tNil) (tAlt (tMeth T.a_TakeRow "told" (spToldTakeRow T) [] E0 (tVar 0) tNil) (tAlt (tMeth T.a_FillRow "told" (spToldFillRow T) [] E0 (tVar 0) tNil) (tAlt (tMeth T.a_SwapRow "told" (spToldSwapRow T) [] E0 (tVar 0) tNil) (tAlt (tMeth T.a_GetRow "told" (spToldGetRow T) [] E0 (tVar 0) tNil) (tAlt (tMeth T.a_PutRow "told" (spToldPutRow T) [] E0 (tVar 0) tNil) (tAlt (tMeth T.a_HasRow "told" (spToldHasRow T) [] E0 (tVar 0) tNil) (tAlt (tMeth T.a_DropRow "told" (spToldDropRow T) [] E0 (tVar 0) tNil) (tAlt (tMeth T.a_LendRow "told" (spToldLendRow T) [] E0 (tVar 0) tNil) (tAlt (tMeth T.a_StepRow "told" (spToldStepRow T) [] E0 (tVar 0) tNil) (tAlt (tMeth T.a_CallRow "told" (spToldCallRow T) [] E0 (tVar 0) tNil) (tAlt (tMeth T.a_BackRow "told" (spToldBackRow T) [] E0 (tVar 0) tNil) (tAlt (tMeth T.a_AskRow "told" (spToldAskRow T) [] E0 (tVar 0) tNil) (tMeth T.a_TellRow "told" (spToldTellRow T) [] E0 (tVar 0) tNil))))))))))))))))
variable {σ : St} {H : Hp} {Q : VK} {T : Tx K mg} {r : Rw} {v : V}
theorem told_any (hσ : σ[0]? = some (some v)) (hv : RowAt T H r v) (q : ∀ u H', Same H H' → IsD H' (toldD r) u → Q u H') : tTold T σ H Q := by
  have hv0 := hv
  cases r with
  | set x0 x1 x2 x3 =>
    obtain ⟨p, dx, v0, v1, v2, v3, rfl, hp, h0, h1, h2, h3⟩ := hv
    exact .inl (⟨_, hσ, p, dx, _, rfl, hp, rfl, p, dx, v0, v1, v2, v3, rfl, hp, fun p2 H2 n2 => q _ _ n2.same ⟨_, _, rfl, n2.at_, ⟨_, _, rfl, rfl, ⟨_, _, rfl, h0.keep n2.keep, ⟨_, _, rfl, h1.keep n2.keep, ⟨_, _, rfl, h2.keep n2.keep, ⟨_, _, rfl, h3.keep n2.keep, rfl⟩⟩⟩⟩⟩⟩⟩)
  | make x0 x1 x2 =>
    obtain ⟨p, dx, v0, v1, v2, rfl, hp, h0, h1, h2⟩ := hv
    exact .inr (.inl (⟨_, hσ, p, dx, _, rfl, hp, rfl, p, dx, v0, v1, v2, rfl, hp, fun p2 H2 n2 => q _ _ n2.same ⟨_, _, rfl, n2.at_, ⟨_, _, rfl, rfl, ⟨_, _, rfl, h0.keep n2.keep, ⟨_, _, rfl, h1.keep n2.keep, ⟨_, _, rfl, h2.keep n2.keep, rfl⟩⟩⟩⟩⟩⟩))
  | non x0 x1 =>
    obtain ⟨p, dx, v0, v1, rfl, hp, h0, h1⟩ := hv
    exact .inr (.inr (.inl (⟨_, hσ, p, dx, _, rfl, hp, rfl, p, dx, v0, v1, rfl, hp, fun p2 H2 n2 => q _ _ n2.same ⟨_, _, rfl, n2.at_, ⟨_, _, rfl, rfl, ⟨_, _, rfl, h0.keep n2.keep, ⟨_, _, rfl, h1.keep n2.keep, rfl⟩⟩⟩⟩⟩)))
  | give x0 x1 =>
    obtain ⟨p, dx, v0, v1, rfl, hp, h0, h1⟩ := hv
    exact .inr (.inr (.inr (.inl (⟨_, hσ, p, dx, _, rfl, hp, rfl, p, dx, v0, v1, rfl, hp, fun p2 H2 n2 => q _ _ n2.same ⟨_, _, rfl, n2.at_, ⟨_, _, rfl, rfl, ⟨_, _, rfl, h0.keep n2.keep, ⟨_, _, rfl, h1.keep n2.keep, rfl⟩⟩⟩⟩⟩))))
  | take x0 x1 =>
    obtain ⟨p, dx, v0, v1, rfl, hp, h0, h1⟩ := hv
    exact .inr (.inr (.inr (.inr (.inl (⟨_, hσ, p, dx, _, rfl, hp, rfl, p, dx, v0, v1, rfl, hp, fun p2 H2 n2 => q _ _ n2.same ⟨_, _, rfl, n2.at_, ⟨_, _, rfl, rfl, ⟨_, _, rfl, h0.keep n2.keep, ⟨_, _, rfl, h1.keep n2.keep, rfl⟩⟩⟩⟩⟩)))))
  | fill x0 x1 =>
    obtain ⟨p, dx, v0, v1, rfl, hp, h0, h1⟩ := hv
    exact .inr (.inr (.inr (.inr (.inr (.inl (⟨_, hσ, p, dx, _, rfl, hp, rfl, p, dx, v0, v1, rfl, hp, fun p2 H2 n2 => q _ _ n2.same ⟨_, _, rfl, n2.at_, ⟨_, _, rfl, rfl, ⟨_, _, rfl, h0.keep n2.keep, ⟨_, _, rfl, h1.keep n2.keep, rfl⟩⟩⟩⟩⟩))))))
  | swap x0 x1 =>
    obtain ⟨p, dx, v0, v1, rfl, hp, h0, h1⟩ := hv
    exact .inr (.inr (.inr (.inr (.inr (.inr (.inl (⟨_, hσ, p, dx, _, rfl, hp, rfl, p, dx, v0, v1, rfl, hp, fun p2 H2 n2 => q _ _ n2.same ⟨_, _, rfl, n2.at_, ⟨_, _, rfl, rfl, ⟨_, _, rfl, h0.keep n2.keep, ⟨_, _, rfl, h1.keep n2.keep, rfl⟩⟩⟩⟩⟩)))))))
  | get x0 x1 =>
    obtain ⟨p, dx, v0, v1, rfl, hp, h0, h1⟩ := hv
    exact .inr (.inr (.inr (.inr (.inr (.inr (.inr (.inl (⟨_, hσ, p, dx, _, rfl, hp, rfl, p, dx, v0, v1, rfl, hp, fun p2 H2 n2 => q _ _ n2.same ⟨_, _, rfl, n2.at_, ⟨_, _, rfl, rfl, ⟨_, _, rfl, h0.keep n2.keep, ⟨_, _, rfl, h1.keep n2.keep, rfl⟩⟩⟩⟩⟩))))))))
  | put x0 x1 =>
    obtain ⟨p, dx, v0, v1, rfl, hp, h0, h1⟩ := hv
    exact .inr (.inr (.inr (.inr (.inr (.inr (.inr (.inr (.inl (⟨_, hσ, p, dx, _, rfl, hp, rfl, p, dx, v0, v1, rfl, hp, fun p2 H2 n2 => q _ _ n2.same ⟨_, _, rfl, n2.at_, ⟨_, _, rfl, rfl, ⟨_, _, rfl, h0.keep n2.keep, ⟨_, _, rfl, h1.keep n2.keep, rfl⟩⟩⟩⟩⟩)))))))))
  | has x0 x1 =>
    obtain ⟨p, dx, v0, v1, rfl, hp, h0, h1⟩ := hv
    exact .inr (.inr (.inr (.inr (.inr (.inr (.inr (.inr (.inr (.inl (⟨_, hσ, p, dx, _, rfl, hp, rfl, p, dx, v0, v1, rfl, hp, fun p2 H2 n2 => q _ _ n2.same ⟨_, _, rfl, n2.at_, ⟨_, _, rfl, rfl, ⟨_, _, rfl, h0.keep n2.keep, ⟨_, _, rfl, h1.keep n2.keep, rfl⟩⟩⟩⟩⟩))))))))))
  | drop x0 =>
    obtain ⟨p, dx, v0, rfl, hp, h0⟩ := hv
    exact .inr (.inr (.inr (.inr (.inr (.inr (.inr (.inr (.inr (.inr (.inl (⟨_, hσ, p, dx, _, rfl, hp, rfl, p, dx, v0, rfl, hp, fun p2 H2 n2 => q _ _ n2.same ⟨_, _, rfl, n2.at_, ⟨_, _, rfl, rfl, ⟨_, _, rfl, h0.keep n2.keep, rfl⟩⟩⟩⟩)))))))))))
  | lend x0 x1 x2 =>
    obtain ⟨p, dx, v0, v1, v2, rfl, hp, h0, h1, h2⟩ := hv
    exact .inr (.inr (.inr (.inr (.inr (.inr (.inr (.inr (.inr (.inr (.inr (.inl (⟨_, hσ, p, dx, _, rfl, hp, rfl, p, dx, v0, v1, v2, rfl, hp, fun p2 H2 n2 => q _ _ n2.same ⟨_, _, rfl, n2.at_, ⟨_, _, rfl, h0.keep n2.keep, ⟨_, _, rfl, h1.keep n2.keep, ⟨_, _, rfl, h2.keep n2.keep, rfl⟩⟩⟩⟩⟩))))))))))))
  | step x0 x1 =>
    obtain ⟨p, dx, v0, v1, rfl, hp, h0, h1⟩ := hv
    exact .inr (.inr (.inr (.inr (.inr (.inr (.inr (.inr (.inr (.inr (.inr (.inr (.inl (⟨_, hσ, p, dx, _, rfl, hp, rfl, p, dx, v0, v1, rfl, hp, fun p2 H2 n2 => q _ _ n2.same ⟨_, _, rfl, n2.at_, ⟨_, _, rfl, rfl, ⟨_, _, rfl, h0.keep n2.keep, ⟨_, _, rfl, h1.keep n2.keep, rfl⟩⟩⟩⟩⟩)))))))))))))
  | call x0 x1 x2 =>
    obtain ⟨p, dx, v0, v1, v2, rfl, hp, h0, h1, h2⟩ := hv
    exact .inr (.inr (.inr (.inr (.inr (.inr (.inr (.inr (.inr (.inr (.inr (.inr (.inr (.inl (⟨_, hσ, p, dx, _, rfl, hp, rfl, p, dx, v0, v1, v2, rfl, hp, fun p2 H2 n2 => q _ _ n2.same ⟨_, _, rfl, n2.at_, ⟨_, _, rfl, rfl, ⟨_, _, rfl, h0.keep n2.keep, ⟨_, _, rfl, h1.keep n2.keep, ⟨_, _, rfl, h2.keep n2.keep, rfl⟩⟩⟩⟩⟩⟩))))))))))))))
  | back x0 =>
    obtain ⟨p, dx, v0, rfl, hp, h0⟩ := hv
    exact .inr (.inr (.inr (.inr (.inr (.inr (.inr (.inr (.inr (.inr (.inr (.inr (.inr (.inr (.inl (⟨_, hσ, p, dx, _, rfl, hp, rfl, p, dx, v0, rfl, hp, fun p2 H2 n2 => q _ _ n2.same ⟨_, _, rfl, n2.at_, ⟨_, _, rfl, rfl, ⟨_, _, rfl, h0.keep n2.keep, rfl⟩⟩⟩⟩)))))))))))))))
  | ask x0 =>
    obtain ⟨p, dx, v0, rfl, hp, h0⟩ := hv
    exact .inr (.inr (.inr (.inr (.inr (.inr (.inr (.inr (.inr (.inr (.inr (.inr (.inr (.inr (.inr (.inl (⟨_, hσ, p, dx, _, rfl, hp, rfl, p, dx, v0, rfl, hp, fun p2 H2 n2 => q _ _ n2.same ⟨_, _, rfl, n2.at_, ⟨_, _, rfl, rfl, ⟨_, _, rfl, h0.keep n2.keep, rfl⟩⟩⟩⟩))))))))))))))))
  | tell x0 =>
    obtain ⟨p, dx, v0, rfl, hp, h0⟩ := hv
    exact .inr (.inr (.inr (.inr (.inr (.inr (.inr (.inr (.inr (.inr (.inr (.inr (.inr (.inr (.inr (.inr (⟨_, hσ, p, dx, _, rfl, hp, rfl, p, dx, v0, rfl, hp, fun p2 H2 n2 => q _ _ n2.same ⟨_, _, rfl, n2.at_, ⟨_, _, rfl, rfl, ⟨_, _, rfl, h0.keep n2.keep, rfl⟩⟩⟩⟩))))))))))))))))
end

section
variable {P : Program} {w : World} {K : PySem.W.Frag} {mg : Str → Option Value} {base : Heap}
def spShown : Sp := fun vs H Q _ => ∃ (v : V) (d : Dt), vs = [v] ∧ IsD H d v ∧ ShOk d ∧ Q (.str (shownS d)) H
theorem strs_of {H : Hp} : ∀ {ds : List Dt} {vs : List V}, IsDs H ds vs → (∀ d ∈ ds, ∃ s : Str, d = .str s ∧ s.length ≤ 20) → vs = (ds.map strOf).map V.str
  | [], _, h, _ => h
  | d :: ds, _, ⟨v, r, e, h1, h2⟩, g => by
    obtain ⟨s, rfl, _⟩ := g d (List.mem_cons_self ..)
    subst e
    have h1 : v = .str s := h1
    rw [h1, strs_of h2 fun x hx => g x (List.mem_cons_of_mem _ hx)]
    rfl
theorem ok_shown (T : Tx K mg) : FnOk P w K mg base CX0 1 T.f_shown T.d_shown ["thing"] spShown := by
  refine T.F_shown.ok sc_shown (fun vs H Q E h => ?_) (fun cdv A outer s H vs Q E hr h => ?_)
  · obtain ⟨v, d, rfl, _⟩ := h
    rfl
  · obtain ⟨v, d, rfl, hv, hd, q⟩ := h
    refine ⟨_, (pss_cons (ps_if (pt_val (pe_callB (isiK (K := K) rfl) (by rfl) T.n_isinstance PyProof.Rows.boot_isinstance (pa_cons (pv 0) (pa_cons (pe_bltn (v := .ty "tuple") (by rfl) T.n_tuple PyProof.Rows.boot_tuple rfl) pa_nil))))
        (pss_one (ps_ret (pe_join pe_str (pv 0))))
        pss_nil)
      (pss_one (ps_ret (pe_callTy call_strK (by rfl) T.n_str PyProof.Rows.boot_str (pa_cons (pv 0) pa_nil))))), ?_⟩
    cases d with
    | non => exact hd.elim
    | int i =>
      obtain rfl : v = .int i := hv
      have hl := num_log hd.1 hd.2
      walk_at "sy"
      exact q
    | str z =>
      obtain rfl : v = .str z := hv
      walk_at "sy"
      exact q
    | tup ds =>
      obtain ⟨p, vs, rfl, hp, hvs⟩ := hv
      have e := strs_of hvs hd.2
      walk_at "sy"
      refine w_join (ys := ds.map strOf) (.inr (SqT.of (by rw [← e]; exact hp))) (joinSz (fun y hy => ?_) (by rw [List.length_map]; have := hd.1; omega) (Nat.le_of_eq dot_len)) ?_
      · obtain ⟨d, h1, rfl⟩ := List.mem_map.mp hy
        obtain ⟨s, rfl, h2⟩ := hd.2 d h1
        show s.length ≤ 1000
        omega
      walk_at "sy"
      exact q
theorem ok_l_shown (T : Tx K mg) : FnOk P w K mg base CX0 1 T.f_l_shown T.d_l_shown ["_law_thing"] spShown := by
  refine T.F_l_shown.ok sc_l_shown (fun vs H Q E h => ?_) (fun cdv A outer s H vs Q E hr h => ?_)
  · obtain ⟨v, d, rfl, _⟩ := h
    rfl
  · obtain ⟨v, d, rfl, hv, hd, q⟩ := h
    refine ⟨_, (pss_cons (ps_if (pt_val (pe_callB (isiK (K := K) rfl) (by rfl) T.n_isinstance PyProof.Rows.boot_isinstance (pa_cons (pv 0) (pa_cons (pe_bltn (v := .ty "tuple") (by rfl) T.n_tuple PyProof.Rows.boot_tuple rfl) pa_nil))))
        (pss_one (ps_ret (pe_join pe_str (pv 0))))
        pss_nil)
      (pss_one (ps_ret (pe_callTy call_strK (by rfl) T.n_str PyProof.Rows.boot_str (pa_cons (pv 0) pa_nil))))), ?_⟩
    cases d with
    | non => exact hd.elim
    | int i =>
      obtain rfl : v = .int i := hv
      have hl := num_log hd.1 hd.2
      walk_at "sy"
      exact q
    | str z =>
      obtain rfl : v = .str z := hv
      walk_at "sy"
      exact q
    | tup ds =>
      obtain ⟨p, vs, rfl, hp, hvs⟩ := hv
      have e := strs_of hvs hd.2
      walk_at "sy"
      refine w_join (ys := ds.map strOf) (.inr (SqT.of (by rw [← e]; exact hp))) (joinSz (fun y hy => ?_) (by rw [List.length_map]; have := hd.1; omega) (Nat.le_of_eq dot_len)) ?_
      · obtain ⟨d, h1, rfl⟩ := List.mem_map.mp hy
        obtain ⟨s, rfl, h2⟩ := hd.2 d h1
        show s.length ≤ 1000
        omega
      walk_at "sy"
      exact q
end

def joinB (ys : List Str) : Str := Txt.join (Str.ofString " ") ys
def optS : Option Str → List Str
  | none => []
  | some s => [Str.ofString "to", s]
def atS (a : At) : Str := shownS (atD a)
def gvS (g : Gv) : Str := shownS (gvD g)
/-- a row's own row of text -/
def headS : Rw → Str
  | .set x a g b => if g = Str.ofString "" then joinB [Str.ofString "set", x, atS a] else joinB [Str.ofString "set", x, atS a, g, atS b]
  | .make x r as => joinB ([Str.ofString "make", x, r] ++ as.map atS)
  | .has x p => joinB [Str.ofString "set", x, Str.ofString "has", shownS (pathD p)]
  | .call n h gs => joinB ([Str.ofString "call", h] ++ gs.map gvS ++ optS n)
  | r => joinB ((partsD r).map shownS)
theorem headS_plain {r : Rw} (p : isPlain r = true) : headS r = joinB ((partsD r).map shownS) := by
  cases r <;> first | rfl | cases p
theorem join_le {s : Str} (hs : s.length ≤ 1) : ∀ {ys : List Str} {c : Nat}, (∀ y ∈ ys, y.length ≤ c) → (Txt.join s ys).length ≤ (c + 1) * ys.length := by
  intro ys
  rw [TL.join_eq]
  induction ys with
  | nil => intro c _; exact Nat.zero_le _
  | cons x r ih =>
    intro c h
    have hx := h x (List.mem_cons_self ..)
    have hr := ih (c := c) fun y hy => h y (List.mem_cons_of_mem _ hy)
    rw [List.length_cons, Nat.mul_add]
    cases r with
    | nil =>
      show x.length ≤ _
      omega
    | cons y t =>
      show (x ++ s ++ Str.join s (y :: t)).length ≤ _
      rw [app_len, app_len]
      omega
theorem shown_le {d : Dt} (h : ShOk d) : (shownS d).length ≤ 300 := by
  cases d with
  | non => exact h.elim
  | int i =>
    have := num_len h.1 h.2
    show (Str.ofString (toString i)).length ≤ 300
    omega
  | str s =>
    have h : s.length ≤ 20 := h
    show s.length ≤ 300
    omega
  | tup ds =>
    have := join_le (Nat.le_of_eq dot_len) (ys := ds.map strOf) (c := 20) fun y hy => by
      obtain ⟨d, hd, rfl⟩ := List.mem_map.mp hy
      obtain ⟨s, rfl, h2⟩ := h.2 d hd
      exact h2
    rw [List.length_map] at this
    have h1 := h.1
    have h2 : (20 + 1) * ds.length ≤ 21 * 10 := Nat.mul_le_mul (by omega) h1
    show (Txt.join (Str.ofString ".") (ds.map strOf)).length ≤ 300
    omega
theorem shown_snoc {ds : List Dt} {i : Nat} {d : Dt} (h : ds[i]? = some d) : (((ds.take (i + 1)).map shownS).map V.str) = (((ds.take i).map shownS).map V.str) ++ [V.str (shownS d)] := by
  rw [List.take_add_one, h, List.map_append, List.map_append]
  rfl
section
variable {P : Program} {w : World} {K : PySem.W.Frag} {mg : Str → Option Value} {base : Heap}
def spHead (T : Tx K mg) (f : Rw → Bool) : Sp := fun vs H Q _ => ∃ (v : V) (r : Rw), vs = [v] ∧ RowAt T H r v ∧ f r = true ∧ GoodRw r ∧ ∀ H', Same H H' → Q (.str (headS r)) H'
theorem ok_Row_head (T : Tx K mg) : FnOk P w K mg base CX0 2 T.f_Row_head T.d_Row_head ["self"] (spHead T isPlain) := by
  refine T.F_Row_head.ok sc_Row_head (fun vs H Q E h => ?_) (fun cdv A outer s H vs Q E hr h => ?_)
  · obtain ⟨v, r, rfl, _⟩ := h
    rfl
  · obtain ⟨v, r, rfl, hv, hb, hg, q⟩ := h
    refine ⟨_, (pss_one (ps_ret (pe_join pe_str (pe_lc (own := [("part", 1)]) (g := gName 1) (tt := tYes) rfl sc_Row_head.nd (pi_tupK (K := K) rfl (peAlt (pe_meth0 (pv 0) T.cl_SetRow T.M_SetRow_told (ok_SetRow_told T) (hr.mono (by omega)) T.B_SetRow_told .nil pass0) (peAlt (pe_meth0 (pv 0) T.cl_MakeRow T.M_MakeRow_told (ok_MakeRow_told T) (hr.mono (by omega)) T.B_MakeRow_told .nil pass0) (peAlt (pe_meth0 (pv 0) T.cl_NoneRow T.M_NoneRow_told (ok_NoneRow_told T) (hr.mono (by omega)) T.B_NoneRow_told .nil pass0) (peAlt (pe_meth0 (pv 0) T.cl_GiveRow T.M_GiveRow_told (ok_GiveRow_told T) (hr.mono (by omega)) T.B_GiveRow_told .nil pass0) (peAlt (pe_meth0 (pv 0) T.cl_TakeRow T.M_TakeRow_told (ok_TakeRow_told T) (hr.mono (by omega)) T.B_TakeRow_told .nil pass0) (peAlt (pe_meth0 (pv 0) T.cl_FillRow T.M_FillRow_told (ok_FillRow_told T) (hr.mono (by omega)) T.B_FillRow_told .nil pass0) (peAlt (pe_meth0 (pv 0) T.cl_SwapRow T.M_SwapRow_told (ok_SwapRow_told T) (hr.mono (by omega)) T.B_SwapRow_told .nil pass0) (peAlt (pe_meth0 (pv 0) T.cl_GetRow T.M_GetRow_told (ok_GetRow_told T) (hr.mono (by omega)) T.B_GetRow_told .nil pass0) (peAlt (pe_meth0 (pv 0) T.cl_PutRow T.M_PutRow_told (ok_PutRow_told T) (hr.mono (by omega)) T.B_PutRow_told .nil pass0) (peAlt (pe_meth0 (pv 0) T.cl_HasRow T.M_HasRow_told (ok_HasRow_told T) (hr.mono (by omega)) T.B_HasRow_told .nil pass0) (peAlt (pe_meth0 (pv 0) T.cl_DropRow T.M_DropRow_told (ok_DropRow_told T) (hr.mono (by omega)) T.B_DropRow_told .nil pass0) (peAlt (pe_meth0 (pv 0) T.cl_LendRow T.M_LendRow_told (ok_LendRow_told T) (hr.mono (by omega)) T.B_LendRow_told .nil pass0) (peAlt (pe_meth0 (pv 0) T.cl_StepRow T.M_StepRow_told (ok_StepRow_told T) (hr.mono (by omega)) T.B_StepRow_told .nil pass0) (peAlt (pe_meth0 (pv 0) T.cl_CallRow T.M_CallRow_told (ok_CallRow_told T) (hr.mono (by omega)) T.B_CallRow_told .nil pass0) (peAlt (pe_meth0 (pv 0) T.cl_BackRow T.M_BackRow_told (ok_BackRow_told T) (hr.mono (by omega)) T.B_BackRow_told .nil pass0) (peAlt (pe_meth0 (pv 0) T.cl_AskRow T.M_AskRow_told (ok_AskRow_told T) (hr.mono (by omega)) T.B_AskRow_told .nil pass0) (pe_meth0 (pv 0) T.cl_TellRow T.M_TellRow_told (ok_TellRow_told T) (hr.mono (by omega)) T.B_TellRow_told .nil pass0)))))))))))))))))) (blkOk_by (own := [("part", 1)]) (N := ["self", "part"]) (sc := defScope s_Row_head) (by decide +kernel)) (fun _ _ _ _ _ => pg_name (i := 1) sc_Row_head.nd rfl (Or.inl rfl)) (fun _ _ _ _ _ => pts_nil) (fun _ _ _ _ _ => (pe_call (ok_shown T) (hr.mono (by omega)) rfl T.m_shown T.F_shown.kp T.B_shown .nil pass0 (pa_cons (pv 1) pa_nil))))))), ?_⟩
    have hgp := hg.plain hb
    rw [headS_plain hb] at q
    have hps : (partsD r).length ≤ 10 := by
      cases r <;> simp [partsD, toldD]
    walk_at "sy"
    refine told_any rfl hv (fun u1 H2 s2 h2 => ?_)
    rw [told_parts] at h2
    obtain ⟨p2, vv, rfl, hp2, hvs⟩ := h2
    generalize partsD r = ds at hgp q hps hvs
    have hvl := hvs.len
    walk_at "sy"
    refine k_lcT vv (fun D i Hx => Same H2 Hx ∧ Hx D = some (.lst (((ds.take i).map shownS).map V.str))) (fun D Hx n => ⟨n.same, n.at_⟩) (fun D i Hx _ h => SqT.of (h.1 _ _ (by walk_at "look"))) ?_ ?_
    · rintro D hD i x Hx hx ⟨sx, hDx⟩
      obtain ⟨dd, e1, e2⟩ := hvs.at hx
      have hi := (List.getElem?_eq_some_iff.mp e1).1
      have hlx : (((ds.take i).map shownS).map V.str).length ≤ 1000 := by
        rw [List.length_map, List.length_map, List.length_take]
        omega
      have hlx2 : ((ds.take i).map shownS).length ≤ 1000 := by rw [List.length_map] at hlx; exact hlx
      have hlx3 : (ds.take i).length ≤ 1000 := by rw [List.length_map] at hlx2; exact hlx2
      walk_at "sy"
      refine ⟨x, dd, rfl, e2.keep (Keep.of sx), hgp dd (List.mem_of_getElem? e1), ?_⟩
      walk_at "sy"
      rename_i Hy cy
      refine ⟨cy.sameOwn sx hD, ?_⟩
      rw [shown_snoc e1]
      exact cy.at_
    · rintro D hD Hx ⟨sx, hDx⟩
      rw [hvl, List.take_length] at hDx
      walk_at "sy"
      refine w_join (ys := ds.map shownS) (.inl (SqL.of hDx)) (joinSz (fun y hy => ?_) (by rw [List.length_map]; omega) (Nat.le_of_eq blank_len)) ?_
      · obtain ⟨d, h1, rfl⟩ := List.mem_map.mp hy
        exact Nat.le_trans (shown_le (hgp d h1)) (by decide)
      walk_at "sy"
      exact q _ (s2.trans sx)
end
theorem app_assoc (a b c : Str) : a ++ b ++ c = a ++ (b ++ c) := by
  show (⟨(a.cps ++ b.cps) ++ c.cps⟩ : Str) = ⟨a.cps ++ (b.cps ++ c.cps)⟩
  rw [Array.append_assoc]
theorem joinB3 (a b c : Str) : joinB [a, b, c] = a ++ Str.ofString " " ++ (b ++ Str.ofString " " ++ c) := by
  unfold joinB
  rw [TL.join_eq]
  rfl
theorem joinB4 (a b c d : Str) : joinB [a, b, c, d] = a ++ Str.ofString " " ++ (b ++ Str.ofString " " ++ (c ++ Str.ofString " " ++ d)) := by
  unfold joinB
  rw [TL.join_eq]
  rfl
theorem setB : Str.ofString "set " = Str.ofString "set" ++ Str.ofString " " := by decide +kernel
theorem hasB : Str.ofString " has " = Str.ofString " " ++ (Str.ofString "has" ++ Str.ofString " ") := by decide +kernel
theorem set3 (x s : Str) : Str.ofString "set " ++ x ++ Str.ofString " " ++ s = joinB [Str.ofString "set", x, s] := by
  rw [joinB3, setB]
  simp only [app_assoc]
theorem set4 (x s : Str) : Str.ofString "set " ++ x ++ Str.ofString " has " ++ s = joinB [Str.ofString "set", x, Str.ofString "has", s] := by
  rw [joinB4, setB, hasB]
  simp only [app_assoc]
theorem smallS {x y : Str} (h : x.length ≤ 5000) (g : y.length ≤ 5000) : x.length + y.length ≤ sizeLine := by
  have := sizeLine_eq
  omega
theorem set_len : (Str.ofString "set ").length = 4 ∧ (Str.ofString " has ").length = 5 ∧ (Str.ofString "set").length = 3 ∧ (Str.ofString "has").length = 3 ∧ (Str.ofString "make").length = 4 ∧ (Str.ofString "call").length = 4 ∧ (Str.ofString "to").length = 2 := by decide +kernel
section
variable {P : Program} {w : World} {K : PySem.W.Frag} {mg : Str → Option Value} {base : Heap}
def isK (k : Nat) : Rw → Bool
  | .set _ _ _ _ => k == 0
  | .make _ _ _ => k == 1
  | .has _ _ => k == 2
  | .call _ _ _ => k == 3
  | _ => false
theorem ok_SetRow_head (T : Tx K mg) : FnOk P w K mg base CX0 2 T.f_SetRow_head T.d_SetRow_head ["self"] (spHead T (isK 0)) := by
  refine T.F_SetRow_head.ok sc_SetRow_head (fun vs H Q E h => ?_) (fun cdv A outer s H vs Q E hr h => ?_)
  · obtain ⟨v, r, rfl, _⟩ := h
    rfl
  · obtain ⟨v, r, rfl, hv, hb, hg, q⟩ := h
    refine ⟨_, (pss_cons (ps_if (pt_cmpR op_eq (fldK (K := K) rfl (pv 0) rfl) pe_str (nomark _))
        (pss_one (ps_ret (pe_op op_add_str (pe_op op_add_str (pe_op op_add_str pe_str (fldK (K := K) rfl (pv 0) rfl)) pe_str) (pe_callTy call_strK (by rfl) T.n_str PyProof.Rows.boot_str (pa_cons (fldK (K := K) rfl (pv 0) rfl) pa_nil)))))
        pss_nil)
      (pss_one (ps_ret (pe_join pe_str (pe_lst (pa_cons pe_str (pa_cons (fldK (K := K) rfl (pv 0) rfl) (pa_cons (pe_callTy call_strK (by rfl) T.n_str PyProof.Rows.boot_str (pa_cons (fldK (K := K) rfl (pv 0) rfl) pa_nil)) (pa_cons (fldK (K := K) rfl (pv 0) rfl) (pa_cons (pe_callTy call_strK (by rfl) T.n_str PyProof.Rows.boot_str (pa_cons (fldK (K := K) rfl (pv 0) rfl) pa_nil)) pa_nil)))))))))), ?_⟩
    cases r with
    | set x0 x1 x2 x3 =>
      obtain ⟨p, dx, v0, v1, v2, v3, rfl, hp, h0, h1, h2, h3⟩ := hv
      obtain rfl : v0 = .str x0 := h0
      obtain rfl : v2 = .str x2 := h2
      have ccl := T.cl_SetRow
      have na0 := T.na_SetRow_name
      have na1 := T.na_SetRow_one
      have na2 := T.na_SetRow_sign
      have na3 := T.na_SetRow_other
      have g0 : x0.length ≤ 20 := hg (.str x0) (by simp [partsD, toldD])
      have g1 : ShOk (atD x1) := hg (atD x1) (by simp [partsD, toldD])
      have g2 : x2.length ≤ 20 := hg (.str x2) (by simp [partsD, toldD])
      have g3 : ShOk (atD x3) := hg (atD x3) (by simp [partsD, toldD])
      have l1 := shown_le g1
      have l3 := shown_le g3
      have sl := set_len
      have z1 : (Str.ofString "set ").length + x0.length ≤ sizeLine := smallS (by omega) (by omega)
      have z2 : (Str.ofString "set " ++ x0).length + (Str.ofString " ").length ≤ sizeLine := smallS (by rw [app_len]; omega) (by have := blank_len; omega)
      have z3 : (Str.ofString "set " ++ x0 ++ Str.ofString " ").length + (atS x1).length ≤ sizeLine := smallS (by rw [app_len, app_len]; have := blank_len; omega) (by unfold atS; omega)
      have e1 : headS (.set x0 x1 x2 x3) = if x2 = Str.ofString "" then joinB [Str.ofString "set", x0, atS x1] else joinB [Str.ofString "set", x0, atS x1, x2, atS x3] := rfl
      rw [e1] at q
      by_cases e0 : x2 = Str.ofString ""
      · rw [if_pos e0, ← set3] at q
        cases x1 with
        | num n =>
          obtain rfl : v1 = .int (n : Int) := h1
          have hl := num_log g1.1 g1.2
          walk_at "sy"
          exact q _ (by walk_at "sm")
        | nam z =>
          obtain rfl : v1 = .str z := h1
          walk_at "sy"
          exact q _ (by walk_at "sm")
      · rw [if_neg e0] at q
        have jz : ∀ y ∈ [Str.ofString "set", x0, atS x1, x2, atS x3], y.length ≤ 1000 := fun y hy => by
          simp only [List.mem_cons, List.not_mem_nil, or_false] at hy
          rcases hy with rfl | rfl | rfl | rfl | rfl
          · omega
          · omega
          · unfold atS; omega
          · omega
          · unfold atS; omega
        cases x1 with
        | num n =>
          obtain rfl : v1 = .int (n : Int) := h1
          have hl := num_log g1.1 g1.2
          cases x3 with
          | num n3 =>
            obtain rfl : v3 = .int (n3 : Int) := h3
            have hl3 := num_log g3.1 g3.2
            walk_at "sy"
            rename_i pl Hl nl
            refine w_join (ys := [Str.ofString "set", x0, atS (.num n), x2, atS (.num n3)]) (.inl (SqL.of nl.at_)) (joinSz jz (by simp) (Nat.le_of_eq blank_len)) ?_
            walk_at "sy"
            exact q _ (by walk_at "sm")
          | nam z3 =>
            obtain rfl : v3 = .str z3 := h3
            walk_at "sy"
            rename_i pl Hl nl
            refine w_join (ys := [Str.ofString "set", x0, atS (.num n), x2, atS (.nam z3)]) (.inl (SqL.of nl.at_)) (joinSz jz (by simp) (Nat.le_of_eq blank_len)) ?_
            walk_at "sy"
            exact q _ (by walk_at "sm")
        | nam z =>
          obtain rfl : v1 = .str z := h1
          cases x3 with
          | num n3 =>
            obtain rfl : v3 = .int (n3 : Int) := h3
            have hl3 := num_log g3.1 g3.2
            walk_at "sy"
            rename_i pl Hl nl
            refine w_join (ys := [Str.ofString "set", x0, atS (.nam z), x2, atS (.num n3)]) (.inl (SqL.of nl.at_)) (joinSz jz (by simp) (Nat.le_of_eq blank_len)) ?_
            walk_at "sy"
            exact q _ (by walk_at "sm")
          | nam z3 =>
            obtain rfl : v3 = .str z3 := h3
            walk_at "sy"
            rename_i pl Hl nl
            refine w_join (ys := [Str.ofString "set", x0, atS (.nam z), x2, atS (.nam z3)]) (.inl (SqL.of nl.at_)) (joinSz jz (by simp) (Nat.le_of_eq blank_len)) ?_
            walk_at "sy"
            exact q _ (by walk_at "sm")
    | _ => cases hb
theorem ok_HasRow_head (T : Tx K mg) : FnOk P w K mg base CX0 2 T.f_HasRow_head T.d_HasRow_head ["self"] (spHead T (isK 2)) := by
  refine T.F_HasRow_head.ok sc_HasRow_head (fun vs H Q E h => ?_) (fun cdv A outer s H vs Q E hr h => ?_)
  · obtain ⟨v, r, rfl, _⟩ := h
    rfl
  · obtain ⟨v, r, rfl, hv, hb, hg, q⟩ := h
    refine ⟨_, (pss_one (ps_ret (pe_op op_add_str (pe_op op_add_str (pe_op op_add_str pe_str (fldK (K := K) rfl (pv 0) rfl)) pe_str) (pe_call (ok_shown T) (hr.mono (by omega)) rfl T.m_shown T.F_shown.kp T.B_shown .nil pass0 (pa_cons (fldK (K := K) rfl (pv 0) rfl) pa_nil))))), ?_⟩
    cases r with
    | has x0 x1 =>
      obtain ⟨p, dx, v0, v1, rfl, hp, h0, h1⟩ := hv
      obtain rfl : v0 = .str x0 := h0
      have ccl := T.cl_HasRow
      have na0 := T.na_HasRow_name
      have na1 := T.na_HasRow_path
      have g0 : x0.length ≤ 20 := hg (.str x0) (by simp [partsD, toldD])
      have g1 : ShOk (pathD x1) := hg (pathD x1) (by simp [partsD, toldD])
      have l1 := shown_le g1
      have sl := set_len
      have z1 : (Str.ofString "set ").length + x0.length ≤ sizeLine := smallS (by omega) (by omega)
      have z2 : (Str.ofString "set " ++ x0).length + (Str.ofString " has ").length ≤ sizeLine := smallS (by rw [app_len]; omega) (by omega)
      have z3 : (Str.ofString "set " ++ x0 ++ Str.ofString " has ").length + (shownS (pathD x1)).length ≤ sizeLine := smallS (by rw [app_len, app_len]; omega) (by omega)
      have e1 : headS (.has x0 x1) = joinB [Str.ofString "set", x0, Str.ofString "has", shownS (pathD x1)] := rfl
      rw [e1, ← set4] at q
      walk_at "sy"
      refine ⟨v1, pathD x1, rfl, h1, g1, ?_⟩
      walk_at "sy"
      exact q _ (by walk_at "sm")
    | _ => cases hb
end
section
variable {P : Program} {w : World} {K : PySem.W.Frag} {mg : Str → Option Value} {base : Heap}
theorem ok_MakeRow_head (T : Tx K mg) : FnOk P w K mg base CX0 2 T.f_MakeRow_head T.d_MakeRow_head ["self"] (spHead T (isK 1)) := by
  refine T.F_MakeRow_head.ok sc_MakeRow_head (fun vs H Q E h => ?_) (fun cdv A outer s H vs Q E hr h => ?_)
  · obtain ⟨v, r, rfl, _⟩ := h
    rfl
  · obtain ⟨v, r, rfl, hv, hb, hg, q⟩ := h
    refine ⟨_, (pss_one (ps_ret (pe_join pe_str (pe_op op_cat (pe_lst (pa_cons pe_str (pa_cons (fldK (K := K) rfl (pv 0) rfl) (pa_cons (fldK (K := K) rfl (pv 0) rfl) pa_nil)))) (pe_lc (own := [("atom", 1)]) (g := gName 1) (tt := tYes) rfl sc_MakeRow_head.nd (pi_tupK (K := K) rfl (fldK (K := K) rfl (pv 0) rfl)) (blkOk_by (own := [("atom", 1)]) (N := ["self", "atom"]) (sc := defScope s_MakeRow_head) (by decide +kernel)) (fun _ _ _ _ _ => pg_name (i := 1) sc_MakeRow_head.nd rfl (Or.inl rfl)) (fun _ _ _ _ _ => pts_nil) (fun _ _ _ _ _ => (pe_call (ok_shown T) (hr.mono (by omega)) rfl T.m_shown T.F_shown.kp T.B_shown .nil pass0 (pa_cons (pv 1) pa_nil)))))))), ?_⟩
    cases r with
    | make x0 x1 as =>
      obtain ⟨p, dx, v0, v1, v2, rfl, hp, h0, h1, h2⟩ := hv
      obtain rfl : v0 = .str x0 := h0
      obtain rfl : v1 = .str x1 := h1
      obtain ⟨pt, vv, rfl, hpt, hvs⟩ := h2
      have ccl := T.cl_MakeRow
      have na0 := T.na_MakeRow_name
      have na1 := T.na_MakeRow_record
      have na2 := T.na_MakeRow_atoms
      obtain ⟨g0, g1, g2, g3⟩ := hg
      have sl := set_len
      have hps : (as.map atD).length ≤ 10 := by rw [List.length_map]; exact g2
      have hgp : ∀ d ∈ as.map atD, ShOk d := fun d hd => by
        obtain ⟨a, ha, rfl⟩ := List.mem_map.mp hd
        exact g3 a ha
      have e1 : headS (.make x0 x1 as) = joinB ([Str.ofString "make", x0, x1] ++ (as.map atD).map shownS) := by
        rw [List.map_map]
        rfl
      rw [e1] at q
      generalize as.map atD = ds at hvs hps hgp q
      have hvl := hvs.len
      walk_at "sy"
      rename_i p2 H2 n2
      have hvs2 := hvs.keep n2.keep
      refine k_lcT vv (fun D i Hx => Same H2 Hx ∧ Hx D = some (.lst (((ds.take i).map shownS).map V.str))) (fun D Hx n => ⟨n.same, n.at_⟩) (fun D i Hx _ h => SqT.of (h.1 _ _ (by walk_at "look"))) ?_ ?_
      · rintro D hD i x Hx hx ⟨sx, hDx⟩
        obtain ⟨dd, e1, e2⟩ := hvs2.at hx
        have hi := (List.getElem?_eq_some_iff.mp e1).1
        have hlx : (((ds.take i).map shownS).map V.str).length ≤ 1000 := by
          rw [List.length_map, List.length_map, List.length_take]
          omega
        have hlx2 : ((ds.take i).map shownS).length ≤ 1000 := by rw [List.length_map] at hlx; exact hlx
        have hlx3 : (ds.take i).length ≤ 1000 := by rw [List.length_map] at hlx2; exact hlx2
        walk_at "sy"
        refine ⟨x, dd, rfl, e2.keep (Keep.of sx), hgp dd (List.mem_of_getElem? e1), ?_⟩
        walk_at "sy"
        rename_i Hy cy
        refine ⟨cy.sameOwn sx hD, ?_⟩
        rw [shown_snoc e1]
        exact cy.at_
      · rintro D hD Hx ⟨sx, hDx⟩
        rw [hvl, List.take_length] at hDx
        have hl1 : (ds.map shownS).length ≤ 10 := by rw [List.length_map]; exact hps
        have jz : ∀ y ∈ ([Str.ofString "make", x0, x1] ++ ds.map shownS), y.length ≤ 1000 := fun y hy => by
          simp only [List.cons_append, List.nil_append, List.mem_cons] at hy
          rcases hy with rfl | rfl | rfl | hy
          · omega
          · omega
          · omega
          · obtain ⟨d, h1, rfl⟩ := List.mem_map.mp hy
            exact Nat.le_trans (shown_le (hgp d h1)) (by decide)
        refine w_cat (sx _ _ n2.at_) hDx (by rw [List.length_map]; have := sizeLine_eq; simp only [List.length_cons, List.length_nil]; omega) fun p3 H3 n3 => ?_
        walk_at "sy"
        refine w_join (ys := [Str.ofString "make", x0, x1] ++ ds.map shownS) (.inl (SqL.of n3.at_)) (joinSz jz (by simp only [List.length_append, List.length_cons, List.length_nil]; omega) (Nat.le_of_eq blank_len)) ?_
        walk_at "sy"
        exact q _ ((n2.same.trans sx).trans n3.same)
    | _ => cases hb
theorem ok_CallRow_head (T : Tx K mg) : FnOk P w K mg base CX0 2 T.f_CallRow_head T.d_CallRow_head ["self"] (spHead T (isK 3)) := by
  refine T.F_CallRow_head.ok sc_CallRow_head (fun vs H Q E h => ?_) (fun cdv A outer s H vs Q E hr h => ?_)
  · obtain ⟨v, r, rfl, _⟩ := h
    rfl
  · obtain ⟨v, r, rfl, hv, hb, hg, q⟩ := h
    refine ⟨_, (pss_cons (ps_set (i := 1) sc_CallRow_head.nd rfl (Or.inl rfl) (pe_op op_cat (pe_lst (pa_cons pe_str (pa_cons (fldK (K := K) rfl (pv 0) rfl) pa_nil))) (pe_lc (own := [("thing", 2)]) (g := gName 2) (tt := tYes) rfl sc_CallRow_head.nd (pi_tupK (K := K) rfl (fldK (K := K) rfl (pv 0) rfl)) (blkOk_by (own := [("thing", 2)]) (N := ["self", "words", "thing"]) (sc := defScope s_CallRow_head) (by decide +kernel)) (fun _ _ _ _ _ => pg_name (i := 2) sc_CallRow_head.nd rfl (Or.inl rfl)) (fun _ _ _ _ _ => pts_nil) (fun _ _ _ _ _ => (pe_call (ok_shown T) (hr.mono (by omega)) rfl T.m_shown T.F_shown.kp T.B_shown .nil pass0 (pa_cons (pv 2) pa_nil))))))
      (pss_cons (ps_if (pt_cmp (pc_notN (fldK (K := K) rfl (pv 0) rfl)))
        (pss_one (ps_set (i := 1) sc_CallRow_head.nd rfl (Or.inl rfl) (pe_op op_cat (pv 1) (pe_lst (pa_cons pe_str (pa_cons (fldK (K := K) rfl (pv 0) rfl) pa_nil))))))
        pss_nil)
      (pss_one (ps_ret (pe_join pe_str (pv 1)))))), ?_⟩
    cases r with
    | call nm x1 gs =>
      obtain ⟨p, dx, v0, v1, v2, rfl, hp, h0, h1, h2⟩ := hv
      obtain rfl : v1 = .str x1 := h1
      obtain ⟨pt, vv, rfl, hpt, hvs⟩ := h2
      have ccl := T.cl_CallRow
      have na0 := T.na_CallRow_name
      have na1 := T.na_CallRow_helper
      have na2 := T.na_CallRow_given
      obtain ⟨g0, g1, g2, g3⟩ := hg
      have sl := set_len
      have hps : (gs.map gvD).length ≤ 10 := by rw [List.length_map]; exact g2
      have hgp : ∀ d ∈ gs.map gvD, ShOk d := fun d hd => by
        obtain ⟨a, ha, rfl⟩ := List.mem_map.mp hd
        exact g3 a ha
      have e1 : headS (.call nm x1 gs) = joinB ([Str.ofString "call", x1] ++ (gs.map gvD).map shownS ++ optS nm) := by
        rw [List.map_map]
        rfl
      rw [e1] at q
      generalize gs.map gvD = ds at hvs hps hgp q
      have hvl := hvs.len
      walk_at "sy"
      rename_i p2 H2 n2
      have hvs2 := hvs.keep n2.keep
      refine k_lcT vv (fun D i Hx => Same H2 Hx ∧ Hx D = some (.lst (((ds.take i).map shownS).map V.str))) (fun D Hx n => ⟨n.same, n.at_⟩) (fun D i Hx _ h => SqT.of (h.1 _ _ (by walk_at "look"))) ?_ ?_
      · rintro D hD i x Hx hx ⟨sx, hDx⟩
        obtain ⟨dd, e1, e2⟩ := hvs2.at hx
        have hi := (List.getElem?_eq_some_iff.mp e1).1
        have hlx : (((ds.take i).map shownS).map V.str).length ≤ 1000 := by
          rw [List.length_map, List.length_map, List.length_take]
          omega
        have hlx2 : ((ds.take i).map shownS).length ≤ 1000 := by rw [List.length_map] at hlx; exact hlx
        have hlx3 : (ds.take i).length ≤ 1000 := by rw [List.length_map] at hlx2; exact hlx2
        walk_at "sy"
        refine ⟨x, dd, rfl, e2.keep (Keep.of sx), hgp dd (List.mem_of_getElem? e1), ?_⟩
        walk_at "sy"
        rename_i Hy cy
        refine ⟨cy.sameOwn sx hD, ?_⟩
        rw [shown_snoc e1]
        exact cy.at_
      · rintro D hD Hx ⟨sx, hDx⟩
        rw [hvl, List.take_length] at hDx
        have hl1 : (ds.map shownS).length ≤ 10 := by rw [List.length_map]; exact hps
        have jz : ∀ y ∈ ([Str.ofString "call", x1] ++ ds.map shownS), y.length ≤ 1000 := fun y hy => by
          simp only [List.cons_append, List.nil_append, List.mem_cons] at hy
          rcases hy with rfl | rfl | hy
          · omega
          · omega
          · obtain ⟨d, h1, rfl⟩ := List.mem_map.mp hy
            exact Nat.le_trans (shown_le (hgp d h1)) (by decide)
        refine w_cat (sx _ _ n2.at_) hDx (by rw [List.length_map]; have := sizeLine_eq; simp only [List.length_cons, List.length_nil]; omega) fun p3 H3 n3 => ?_
        have hp3 : H3 p3 = some (.lst (([Str.ofString "call", x1] ++ ds.map shownS).map V.str)) := by
          rw [List.map_append]
          exact n3.at_
        have s3 : Same H H3 := (n2.same.trans sx).trans n3.same
        have hp4 : H3 p = some (.ins T.a_CallRow dx (fsCallRow v0 (.str x1) (.ref pt))) := s3 _ _ hp
        cases nm with
        | none =>
          obtain rfl : v0 = .non := h0
          have e2 : [Str.ofString "call", x1] ++ ds.map shownS ++ optS none = [Str.ofString "call", x1] ++ ds.map shownS := List.append_nil _
          rw [e2] at q
          walk_at "sy"
          refine w_join (ys := [Str.ofString "call", x1] ++ ds.map shownS) (.inl (SqL.of hp3)) (joinSz jz (by simp only [List.length_append, List.length_cons, List.length_nil]; omega) (Nat.le_of_eq blank_len)) ?_
          exact q _ s3
        | some z =>
          obtain rfl : v0 = .str z := h0
          walk_at "sy"
          rename_i p4 H4 n4 p5 H5 n5
          have hz : z.length ≤ 20 := g0 z rfl
          have hp5 : H5 p5 = some (.lst (([Str.ofString "call", x1] ++ ds.map shownS ++ optS (some z)).map V.str)) := by
            rw [List.map_append]
            exact n5.at_
          refine w_join (ys := [Str.ofString "call", x1] ++ ds.map shownS ++ optS (some z)) (.inl (SqL.of hp5)) (joinSz (fun y hy => ?_) (by simp only [optS, List.length_append, List.length_cons, List.length_nil]; omega) (Nat.le_of_eq blank_len)) ?_
          · rcases List.mem_append.mp hy with hy | hy
            · exact jz y hy
            · simp only [optS, List.mem_cons, List.not_mem_nil, or_false] at hy
              rcases hy with rfl | rfl
              · omega
              · omega
          exact q _ ((s3.trans n4.same).trans n5.same)
    | _ => cases hb
end
/-! ### heads of ifs and whiles -/
def headE : El → Str
  | .row r => headS r
  | .iff a _ _ => Str.ofString "if " ++ atS a
  | .whl a _ => Str.ofString "while " ++ atS a
  | _ => Str.ofString ""
theorem if_len : (Str.ofString "if ").length = 3 ∧ (Str.ofString "while ").length = 6 ∧ (Str.ofString "if").length = 2 ∧ (Str.ofString "while").length = 5 := by decide +kernel
section
variable {P : Program} {w : World} {K : PySem.W.Frag} {mg : Str → Option Value} {base : Heap}
def spHeadE (T : Tx K mg) (n : Nat) : Sp := fun vs H Q _ => ∃ (v : V) (e : El) (d : Nat), vs = [v] ∧ ElAt T H e v ∧ kindE e = n ∧ goodE d e ∧ ∀ H', Same H H' → Q (.str (headE e)) H'
theorem at_str {H : Hp} {a : At} {v : V} (h : IsD H (atD a) v) (g : ShOk (atD a)) : (∃ i : Int, v = .int i ∧ i.natAbs.log2 < 1920 ∧ Str.ofString (toString i) = atS a) ∨ ∃ s, v = .str s ∧ s = atS a := by
  cases a with
  | num n =>
    obtain rfl : v = .int (n : Int) := h
    exact .inl ⟨_, rfl, num_log g.1 g.2, rfl⟩
  | nam z =>
    obtain rfl : v = .str z := h
    exact .inr ⟨_, rfl, rfl⟩
theorem at_le {a : At} (g : ShOk (atD a)) : (atS a).length ≤ 300 := shown_le g
theorem ok_IfRow_head (T : Tx K mg) : FnOk P w K mg base CX0 1 T.f_IfRow_head T.d_IfRow_head ["self"] (spHeadE T 0) := by
  refine T.F_IfRow_head.ok sc_IfRow_head (fun vs H Q E h => ?_) (fun cdv A outer s H vs Q E hr h => ?_)
  · obtain ⟨v, e, d, rfl, _⟩ := h
    rfl
  · obtain ⟨v, e, d, rfl, hv, hk, hg, q⟩ := h
    refine ⟨_, (pss_one (ps_ret (pe_op op_add_str pe_str (pe_callTy call_strK (by rfl) T.n_str PyProof.Rows.boot_str (pa_cons (fldK (K := K) rfl (pv 0) rfl) pa_nil))))), ?_⟩
    have ccl := T.cl_IfRow
    have na0 := T.na_IfRow_atom
    cases e with
    | iff a rs os =>
      obtain ⟨p, dx, q1, q2, v0, us1, us2, rfl, hp, h0, _⟩ := hv
      have g0 : ShOk (atD a) := ShL.ok (atOk.shl (show atOk a by
        cases d with
        | zero => exact hg.elim
        | succ d => exact hg.1))
      have l0 := at_le g0
      have l1 := if_len
      have z1 : (Str.ofString "if ").length + (atS a).length ≤ sizeLine := smallS (by omega) (by omega)
      cases a with
      | num n =>
        obtain rfl : v0 = .int (n : Int) := h0
        have hl := num_log g0.1 g0.2
        walk_at "sy"
        exact q _ (by walk_at "sm")
      | nam z =>
        obtain rfl : v0 = .str z := h0
        walk_at "sy"
        exact q _ (by walk_at "sm")
    | _ => cases hk
theorem ok_WhileRow_head (T : Tx K mg) : FnOk P w K mg base CX0 1 T.f_WhileRow_head T.d_WhileRow_head ["self"] (spHeadE T 1) := by
  refine T.F_WhileRow_head.ok sc_WhileRow_head (fun vs H Q E h => ?_) (fun cdv A outer s H vs Q E hr h => ?_)
  · obtain ⟨v, e, d, rfl, _⟩ := h
    rfl
  · obtain ⟨v, e, d, rfl, hv, hk, hg, q⟩ := h
    refine ⟨_, (pss_one (ps_ret (pe_op op_add_str pe_str (pe_callTy call_strK (by rfl) T.n_str PyProof.Rows.boot_str (pa_cons (fldK (K := K) rfl (pv 0) rfl) pa_nil))))), ?_⟩
    have ccl := T.cl_WhileRow
    have na0 := T.na_WhileRow_atom
    cases e with
    | whl a rs =>
      obtain ⟨p, dx, q1, v0, us1, rfl, hp, h0, _⟩ := hv
      have g0 : ShOk (atD a) := ShL.ok (atOk.shl (show atOk a by
        cases d with
        | zero => exact hg.elim
        | succ d => exact hg.1))
      have l0 := at_le g0
      have l1 := if_len
      have z1 : (Str.ofString "while ").length + (atS a).length ≤ sizeLine := smallS (by omega) (by omega)
      cases a with
      | num n =>
        obtain rfl : v0 = .int (n : Int) := h0
        have hl := num_log g0.1 g0.2
        walk_at "sy"
        exact q _ (by walk_at "sm")
      | nam z =>
        obtain rfl : v0 = .str z := h0
        walk_at "sy"
        exact q _ (by walk_at "sm")
    | _ => cases hk
end

section
variable {P : Program} {w : World} {K : PySem.W.Frag} {mg : Str → Option Value} {base : Heap}
theorem at_notup {a : At} {l : List Dt} : atD a ≠ .tup l := by cases a <;> exact fun z => nomatch z
def spLHead (f : Rw → Bool) : Sp := fun vs H Q _ => ∃ (v : V) (r : Rw), vs = [v] ∧ IsD H (toldD r) v ∧ f r = true ∧ GoodRw r ∧ ∀ H', Same H H' → Q (.str (headS r)) H'
def hCl : Rw → Nat
  | .set _ _ _ _ => 0
  | .make _ _ _ => 0
  | .has _ _ => 0
  | .call _ _ _ => 0
  | .tell _ => 2
  | .lend _ _ _ => 1
  | .non _ _ => 1
  | .give _ _ => 1
  | .take _ _ => 1
  | .fill _ _ => 1
  | .swap _ _ => 2
  | .get _ _ => 2
  | .put _ _ => 2
  | .drop _ => 2
  | .step _ _ => 2
  | .back _ => 2
  | .ask _ => 2
theorem ok_l_head0 (T : Tx K mg) : FnOk P w K mg base CX0 2 T.f_l_head T.d_l_head ["_law_told"] (spLHead (fun r => hCl r == 0)) := by
  refine T.F_l_head.ok sc_l_head (fun vs H Q E h => ?_) (fun cdv A outer s H vs Q E hr h => ?_)
  · obtain ⟨v, r, rfl, _⟩ := h
    rfl
  · obtain ⟨v, r, rfl, hv, hb, hg, q⟩ := h
    refine ⟨_, (pss_cons (ps_set (i := 1) sc_l_head.nd rfl (Or.inl rfl) (pe_ix (ix_tupK (K := K) rfl) (pv 0) pe_int (fun _ _ => rfl)))
      (pss_cons (ps_if (PW.pt (pw_and (pt_cmpR op_eq (pv 1) pe_str (nomark _)) (pw_and1 (pt_cmpR op_ne (pe_ix (ix_tupK (K := K) rfl) (pv 0) pe_int (fun _ _ => rfl)) pe_str (nomark _)))))
        (pss_one (ps_ret (pe_join pe_str (pe_lc (own := [("_law_part", 3)]) (g := gName 3) (tt := tYes) rfl sc_l_head.nd (pi_tupK (K := K) rfl (pv 0)) (blkOk_by (own := [("_law_part", 3)]) (N := ["_law_told", "_law_word_here", "_law_ends", "_law_part", "_law_atom_here", "_law_thing"]) (sc := defScope s_l_head) (by decide +kernel)) (fun _ _ _ _ _ => pg_name (i := 3) sc_l_head.nd rfl (Or.inl rfl)) (fun _ _ _ _ _ => pts_nil) (fun _ _ _ _ _ => (pe_callTy call_strK (by rfl) T.n_str PyProof.Rows.boot_str (pa_cons (pv 3) pa_nil)))))))
        pss_nil)
      (pss_cons (ps_if (pt_cmpR (in_seqK (K := K) rfl) (pv 1) (pe_tup (pa_cons pe_str (pa_cons pe_str (pa_cons pe_str pa_nil)))) (by rfl))
        (pss_one (ps_ret (pe_join pe_str (pe_op op_cat (pe_lst (pa_cons (pv 1) (pa_cons (pe_callTy call_strK (by rfl) T.n_str PyProof.Rows.boot_str (pa_cons (pe_ix (ix_tupK (K := K) rfl) (pv 0) pe_int (fun _ _ => rfl)) pa_nil)) pa_nil))) (pe_op op_rep (pe_lst (pa_cons (pe_callTy (call_strM hr) (by rfl) T.n_str PyProof.Rows.boot_str (pa_cons (pe_ix (ix_tupK (K := K) rfl) (pv 0) pe_int (fun _ _ => rfl)) pa_nil)) pa_nil)) (pe_callTy call_int1 (by rfl) T.n_int PyProof.Rows.boot_int (pa_cons (pe_cmpR op_eq (pv 1) pe_str (nomark _)) pa_nil)))))))
        pss_nil)
      (pss_cons (ps_if (pt_cmpR op_eq (pv 1) pe_str (nomark _))
        (pss_one (ps_ret (pe_op op_add_str (pe_op op_add_str (pe_op op_add_str pe_str (pe_ix (ix_tupK (K := K) rfl) (pv 0) pe_int (fun _ _ => rfl))) pe_str) (pe_call (ok_l_shown T) (hr.mono (by omega)) rfl T.m_l_shown T.F_l_shown.kp T.B_l_shown .nil pass0 (pa_cons (pe_ix (ix_tupK (K := K) rfl) (pv 0) pe_int (fun _ _ => rfl)) pa_nil)))))
        pss_nil)
      (pss_cons (ps_if (pt_cmpR op_eq (pv 1) pe_str (nomark _))
        (pss_one (ps_ret (pe_join pe_str (pe_op op_cat (pe_lst (pa_cons (pv 1) (pa_cons (pe_ix (ix_tupK (K := K) rfl) (pv 0) pe_int (fun _ _ => rfl)) (pa_cons (pe_ix (ix_tupK (K := K) rfl) (pv 0) pe_int (fun _ _ => rfl)) pa_nil)))) (pe_lc (own := [("_law_atom_here", 4)]) (g := gName 4) (tt := tYes) rfl sc_l_head.nd (pi_tupK (K := K) rfl (pe_ix (ix_tupK (K := K) rfl) (pv 0) pe_int (fun _ _ => rfl))) (blkOk_by (own := [("_law_atom_here", 4)]) (N := ["_law_told", "_law_word_here", "_law_ends", "_law_part", "_law_atom_here", "_law_thing"]) (sc := defScope s_l_head) (by decide +kernel)) (fun _ _ _ _ _ => pg_name (i := 4) sc_l_head.nd rfl (Or.inl rfl)) (fun _ _ _ _ _ => pts_nil) (fun _ _ _ _ _ => (pe_callTy call_strK (by rfl) T.n_str PyProof.Rows.boot_str (pa_cons (pv 4) pa_nil))))))))
        pss_nil)
      (pss_cons (ps_if (pt_cmpR op_eq (pv 1) pe_str (nomark _))
        (pss_cons (ps_set (i := 2) sc_l_head.nd rfl (Or.inl rfl) (pe_ifExp (pt_cmp (pc_isN (pe_ix (ix_tupK (K := K) rfl) (pv 0) pe_int (fun _ _ => rfl)))) (pe_lst pa_nil) (pe_lst (pa_cons pe_str (pa_cons (pe_ix (ix_tupK (K := K) rfl) (pv 0) pe_int (fun _ _ => rfl)) pa_nil)))))
        (pss_one (ps_ret (pe_join pe_str (pe_op op_cat (pe_op op_cat (pe_lst (pa_cons (pv 1) (pa_cons (pe_ix (ix_tupK (K := K) rfl) (pv 0) pe_int (fun _ _ => rfl)) pa_nil))) (pe_lc (own := [("_law_thing", 5)]) (g := gName 5) (tt := tYes) rfl sc_l_head.nd (pi_tupK (K := K) rfl (pe_ix (ix_tupK (K := K) rfl) (pv 0) pe_int (fun _ _ => rfl))) (blkOk_by (own := [("_law_thing", 5)]) (N := ["_law_told", "_law_word_here", "_law_ends", "_law_part", "_law_atom_here", "_law_thing"]) (sc := defScope s_l_head) (by decide +kernel)) (fun _ _ _ _ _ => pg_name (i := 5) sc_l_head.nd rfl (Or.inl rfl)) (fun _ _ _ _ _ => pts_nil) (fun _ _ _ _ _ => (pe_call (ok_l_shown T) (hr.mono (by omega)) rfl T.m_l_shown T.F_l_shown.kp T.B_l_shown .nil pass0 (pa_cons (pv 5) pa_nil))))) (pv 2))))))
        pss_nil)
      (pss_one (ps_ret (pe_join pe_str (pe_lc (own := [("_law_part", 3)]) (g := gName 3) (tt := tYes) rfl sc_l_head.nd (pi_tupK (K := K) rfl (pv 0)) (blkOk_by (own := [("_law_part", 3)]) (N := ["_law_told", "_law_word_here", "_law_ends", "_law_part", "_law_atom_here", "_law_thing"]) (sc := defScope s_l_head) (by decide +kernel)) (fun _ _ _ _ _ => pg_name (i := 3) sc_l_head.nd rfl (Or.inl rfl)) (fun _ _ _ _ _ => pts_nil) (fun _ _ _ _ _ => (pe_call (ok_l_shown T) (hr.mono (by omega)) rfl T.m_l_shown T.F_l_shown.kp T.B_l_shown .nil pass0 (pa_cons (pv 3) pa_nil))))))))))))), ?_⟩
    have sl := set_len
    have bl := blank_len
    cases r with
    | set x0 x1 x2 x3 =>
      obtain ⟨p, vs, rfl, hp, hvs⟩ := hv
      have hvs0 := hvs
      obtain ⟨_, vr, rfl, hw, hvs⟩ := hvs
      obtain rfl : _ = V.str (Str.ofString "set") := hw
      obtain ⟨_, _, rfl, h0, hvs⟩ := hvs
      obtain rfl : _ = V.str x0 := h0
      obtain ⟨v1, _, rfl, h1, hvs⟩ := hvs
      obtain ⟨_, _, rfl, h2, hvs⟩ := hvs
      obtain rfl : _ = V.str x2 := h2
      obtain ⟨v3, _, rfl, h3, hvs⟩ := hvs
      obtain rfl : _ = [] := hvs
      have g0 : x0.length ≤ 20 := hg (.str x0) (by simp [partsD, toldD])
      have g1 : ShOk (atD x1) := hg (atD x1) (by simp [partsD, toldD])
      have hgp : ∀ d ∈ partsD (.set x0 x1 x2 x3), ShOk d := hg
      have hnt : ∀ d ∈ partsD (.set x0 x1 x2 x3), ∀ l, d ≠ .tup l := fun d hd l => by
        simp only [partsD, toldD, List.mem_cons, List.not_mem_nil, or_false] at hd
        rcases hd with rfl | rfl | rfl | rfl | rfl
        · exact fun z => nomatch z
        · exact fun z => nomatch z
        · exact at_notup
        · exact fun z => nomatch z
        · exact at_notup
      have e1 : headS (.set x0 x1 x2 x3) = if x2 = Str.ofString "" then joinB [Str.ofString "set", x0, atS x1] else joinB ((partsD (.set x0 x1 x2 x3)).map shownS) := rfl
      rw [e1] at q
      by_cases e0 : x2 = Str.ofString ""
      · rw [if_pos e0] at q
        subst e0
        have hj : ∀ y ∈ [Str.ofString "set", x0, atS x1], y.length ≤ 1000 := fun y hy => by
          have l1 := shown_le g1
          simp only [List.mem_cons, List.not_mem_nil, or_false] at hy
          rcases hy with rfl | rfl | rfl
          · omega
          · omega
          · unfold atS; omega
        cases x1 with
        | num n =>
          obtain rfl : v1 = .int (n : Int) := h1
          have hl := num_log g1.1 g1.2
          walk_at "sy"
          refine .inl (w_strI hl ?_)
          walk_at "sy"
          rename_i q1 B1 n1 q2 B2 n2 q3 B3 n3 q4 B4 n4
          rw [show (if decide (Str.ofString "set" = Str.ofString "set") = true then (1 : Int) else 0) = 1 from if_pos (decide_eq_true rfl)] at n4
          have n4' : New q4 (.lst [V.str (atS (.num n))]) _ _ := n4
          refine w_cat (n4.get (n3.get n2.at_)) n4'.at_ (by have := sizeLine_eq; simp only [List.length_cons, List.length_nil]; omega) fun p3 H3 n5 => ?_
          walk_at "sy"
          refine w_join (ys := [Str.ofString "set", x0, atS (.num n)]) (.inl (SqL.of n5.at_)) (joinSz hj (by simp) (Nat.le_of_eq blank_len)) ?_
          walk_at "sy"
          exact q _ (n1.same.trans (n2.same.trans (n3.same.trans (n4.same.trans n5.same))))
        | nam z =>
          obtain rfl : v1 = .str z := h1
          walk_at "sy"
          refine .inl (w_strS ?_)
          walk_at "sy"
          rename_i q1 B1 n1 q2 B2 n2 q3 B3 n3 q4 B4 n4
          rw [show (if decide (Str.ofString "set" = Str.ofString "set") = true then (1 : Int) else 0) = 1 from if_pos (decide_eq_true rfl)] at n4
          have n4' : New q4 (.lst [V.str (atS (.nam z))]) _ _ := n4
          refine w_cat (n4.get (n3.get n2.at_)) n4'.at_ (by have := sizeLine_eq; simp only [List.length_cons, List.length_nil]; omega) fun p3 H3 n5 => ?_
          walk_at "sy"
          refine w_join (ys := [Str.ofString "set", x0, atS (.nam z)]) (.inl (SqL.of n5.at_)) (joinSz hj (by simp) (Nat.le_of_eq blank_len)) ?_
          walk_at "sy"
          exact q _ (n1.same.trans (n2.same.trans (n3.same.trans (n4.same.trans n5.same))))
      · rw [if_neg e0] at q
        have hps : (partsD (.set x0 x1 x2 x3)).length ≤ 10 := by simp [partsD, toldD]
        have hvs1 : IsDs H (partsD (.set x0 x1 x2 x3)) _ := hvs0
        generalize hds : partsD _ = ds at hgp q hps hvs1 hnt
        have hvl := hvs1.len
        walk_at "sy"
        refine k_lcT [V.str (Str.ofString "set"), V.str x0, v1, V.str x2, v3] (fun D i Hx => Same H Hx ∧ Hx D = some (.lst (((ds.take i).map shownS).map V.str))) (fun D Hx n => ⟨n.same, n.at_⟩) (fun D i Hx _ h => SqT.of (h.1 _ _ (by walk_at "look"))) ?_ ?_
        · rintro D hD i x Hx hx ⟨sx, hDx⟩
          obtain ⟨dd, e1, e2⟩ := hvs1.at hx
          have hi := (List.getElem?_eq_some_iff.mp e1).1
          have hlx : (((ds.take i).map shownS).map V.str).length ≤ 1000 := by
            rw [List.length_map, List.length_map, List.length_take]
            omega
          have hlx2 : ((ds.take i).map shownS).length ≤ 1000 := by rw [List.length_map] at hlx; exact hlx
          have hlx3 : (ds.take i).length ≤ 1000 := by rw [List.length_map] at hlx2; exact hlx2
          have hdm := List.mem_of_getElem? e1
          have hok := hgp dd hdm
          cases dd with
          | non => exact hok.elim
          | tup l => exact absurd rfl (hnt _ hdm l)
          | int j =>
            obtain rfl : x = .int j := e2
            have hl := num_log hok.1 hok.2
            walk_at "sy"
            rename_i Hy cy
            refine ⟨cy.sameOwn sx hD, ?_⟩
            rw [shown_snoc e1]
            exact cy.at_
          | str z =>
            obtain rfl : x = .str z := e2
            walk_at "sy"
            rename_i Hy cy
            refine ⟨cy.sameOwn sx hD, ?_⟩
            rw [shown_snoc e1]
            exact cy.at_
        · rintro D hD Hx ⟨sx, hDx⟩
          rw [hvl, List.take_length] at hDx
          refine w_join (ys := ds.map shownS) (.inl (SqL.of hDx)) (joinSz (fun y hy => by
            obtain ⟨d, h1, rfl⟩ := List.mem_map.mp hy
            exact Nat.le_trans (shown_le (hgp d h1)) (by decide)) (by rw [List.length_map]; omega) (Nat.le_of_eq blank_len)) ?_
          walk_at "sy"
          exact q _ sx
    | make x0 x1 as =>
      obtain ⟨p, vs, rfl, hp, hvs⟩ := hv
      obtain ⟨_, _, rfl, hw, hvs⟩ := hvs
      obtain rfl : _ = V.str (Str.ofString "make") := hw
      obtain ⟨_, _, rfl, h0, hvs⟩ := hvs
      obtain rfl : _ = V.str x0 := h0
      obtain ⟨_, _, rfl, h1, hvs⟩ := hvs
      obtain rfl : _ = V.str x1 := h1
      obtain ⟨_, _, rfl, ⟨pt, vv, rfl, hpt, hvs2⟩, hvs⟩ := hvs
      obtain rfl : _ = [] := hvs
      obtain ⟨g0, g1, g2, g3⟩ := hg
      have hps : (as.map atD).length ≤ 10 := by rw [List.length_map]; exact g2
      have hgp : ∀ d ∈ as.map atD, ShOk d := fun d hd => by
        obtain ⟨a, ha, rfl⟩ := List.mem_map.mp hd
        exact g3 a ha
      have hnt : ∀ d ∈ as.map atD, ∀ l, d ≠ .tup l := fun d hd l => by
        obtain ⟨a, ha, rfl⟩ := List.mem_map.mp hd
        exact at_notup
      have e1 : headS (.make x0 x1 as) = joinB ([Str.ofString "make", x0, x1] ++ (as.map atD).map shownS) := by
        rw [List.map_map]
        rfl
      rw [e1] at q
      generalize as.map atD = ds at hvs2 hps hgp hnt q
      have hvl := hvs2.len
      walk_at "sy"
      rename_i q1 B1 n1 q2 B2 n2
      have hvs3 := hvs2.keep (n1.keep.trans n2.keep)
      refine k_lcT vv (fun D i Hx => Same B2 Hx ∧ Hx D = some (.lst (((ds.take i).map shownS).map V.str))) (fun D Hx n => ⟨n.same, n.at_⟩) (fun D i Hx _ h => SqT.of (h.1 _ _ (by walk_at "look"))) ?_ ?_
      · rintro D hD i x Hx hx ⟨sx, hDx⟩
        obtain ⟨dd, e1, e2⟩ := hvs3.at hx
        have hi := (List.getElem?_eq_some_iff.mp e1).1
        have hlx : (((ds.take i).map shownS).map V.str).length ≤ 1000 := by
          rw [List.length_map, List.length_map, List.length_take]
          omega
        have hlx2 : ((ds.take i).map shownS).length ≤ 1000 := by rw [List.length_map] at hlx; exact hlx
        have hlx3 : (ds.take i).length ≤ 1000 := by rw [List.length_map] at hlx2; exact hlx2
        have hdm := List.mem_of_getElem? e1
        have hok := hgp dd hdm
        cases dd with
        | non => exact hok.elim
        | tup l => exact absurd rfl (hnt _ hdm l)
        | int j =>
          obtain rfl : x = .int j := e2
          have hl := num_log hok.1 hok.2
          walk_at "sy"
          rename_i Hy cy
          refine ⟨cy.sameOwn sx hD, ?_⟩
          rw [shown_snoc e1]
          exact cy.at_
        | str z =>
          obtain rfl : x = .str z := e2
          walk_at "sy"
          rename_i Hy cy
          refine ⟨cy.sameOwn sx hD, ?_⟩
          rw [shown_snoc e1]
          exact cy.at_
      · rintro D hD Hx ⟨sx, hDx⟩
        rw [hvl, List.take_length] at hDx
        have hl1 : (ds.map shownS).length ≤ 10 := by rw [List.length_map]; exact hps
        have jz : ∀ y ∈ ([Str.ofString "make", x0, x1] ++ ds.map shownS), y.length ≤ 1000 := fun y hy => by
          simp only [List.cons_append, List.nil_append, List.mem_cons] at hy
          rcases hy with rfl | rfl | rfl | hy
          · omega
          · omega
          · omega
          · obtain ⟨d, h1, rfl⟩ := List.mem_map.mp hy
            exact Nat.le_trans (shown_le (hgp d h1)) (by decide)
        refine w_cat (sx _ _ n2.at_) hDx (by rw [List.length_map]; have := sizeLine_eq; simp only [List.length_cons, List.length_nil]; omega) fun p3 H3 n3 => ?_
        walk_at "sy"
        refine w_join (ys := [Str.ofString "make", x0, x1] ++ ds.map shownS) (.inl (SqL.of n3.at_)) (joinSz jz (by simp only [List.length_append, List.length_cons, List.length_nil]; omega) (Nat.le_of_eq blank_len)) ?_
        walk_at "sy"
        exact q _ ((n1.same.trans n2.same).trans (sx.trans n3.same))
    | has x0 x1 =>
      obtain ⟨p, vs, rfl, hp, hvs⟩ := hv
      obtain ⟨_, _, rfl, hw, hvs⟩ := hvs
      obtain rfl : _ = V.str (Str.ofString "has") := hw
      obtain ⟨_, _, rfl, h0, hvs⟩ := hvs
      obtain rfl : _ = V.str x0 := h0
      obtain ⟨v1, _, rfl, h1, hvs⟩ := hvs
      obtain rfl : _ = [] := hvs
      have g0 : x0.length ≤ 20 := hg (.str x0) (by simp [partsD, toldD])
      have g1 : ShOk (pathD x1) := hg (pathD x1) (by simp [partsD, toldD])
      have l1 := shown_le g1
      have z1 : (Str.ofString "set ").length + x0.length ≤ sizeLine := smallS (by omega) (by omega)
      have z2 : (Str.ofString "set " ++ x0).length + (Str.ofString " has ").length ≤ sizeLine := smallS (by rw [app_len]; omega) (by omega)
      have z3 : (Str.ofString "set " ++ x0 ++ Str.ofString " has ").length + (shownS (pathD x1)).length ≤ sizeLine := smallS (by rw [app_len, app_len]; omega) (by omega)
      have e1 : headS (.has x0 x1) = joinB [Str.ofString "set", x0, Str.ofString "has", shownS (pathD x1)] := rfl
      rw [e1, ← set4] at q
      walk_at "sy"
      rename_i q1 B1 n1
      refine ⟨v1, pathD x1, rfl, h1.keep n1.keep, g1, ?_⟩
      walk_at "sy"
      exact q _ n1.same
    | call nm x1 gs =>
      obtain ⟨p, vs, rfl, hp, hvs⟩ := hv
      obtain ⟨_, _, rfl, hw, hvs⟩ := hvs
      obtain rfl : _ = V.str (Str.ofString "call") := hw
      obtain ⟨v0, _, rfl, h0, hvs⟩ := hvs
      obtain ⟨_, _, rfl, h1, hvs⟩ := hvs
      obtain rfl : _ = V.str x1 := h1
      obtain ⟨_, _, rfl, ⟨pt, vv, rfl, hpt, hvs2⟩, hvs⟩ := hvs
      obtain rfl : _ = [] := hvs
      obtain ⟨g0, g1, g2, g3⟩ := hg
      have hps : (gs.map gvD).length ≤ 10 := by rw [List.length_map]; exact g2
      have hgp : ∀ d ∈ gs.map gvD, ShOk d := fun d hd => by
        obtain ⟨a, ha, rfl⟩ := List.mem_map.mp hd
        exact g3 a ha
      have e1 : headS (.call nm x1 gs) = joinB ([Str.ofString "call", x1] ++ (gs.map gvD).map shownS ++ optS nm) := by
        rw [List.map_map]
        rfl
      rw [e1] at q
      generalize gs.map gvD = ds at hvs2 hps hgp q
      have hvl := hvs2.len
      cases nm with
      | none =>
        obtain rfl : v0 = .non := h0
        have e2 : [Str.ofString "call", x1] ++ ds.map shownS ++ optS none = [Str.ofString "call", x1] ++ ds.map shownS := List.append_nil _
        rw [e2] at q
        walk_at "sy"
        rename_i q1 B1 n1 q2 B2 n2 q3 B3 n3
        have hvs3 := hvs2.keep (n1.keep.trans (n2.keep.trans n3.keep))
        refine k_lcT vv (fun D i Hx => Same B3 Hx ∧ Hx D = some (.lst (((ds.take i).map shownS).map V.str))) (fun D Hx n => ⟨n.same, n.at_⟩) (fun D i Hx _ h => SqT.of (h.1 _ _ (by walk_at "look"))) ?_ ?_
        · rintro D hD i x Hx hx ⟨sx, hDx⟩
          obtain ⟨dd, e1, e2⟩ := hvs3.at hx
          have hi := (List.getElem?_eq_some_iff.mp e1).1
          have hlx : (((ds.take i).map shownS).map V.str).length ≤ 1000 := by
            rw [List.length_map, List.length_map, List.length_take]
            omega
          have hlx2 : ((ds.take i).map shownS).length ≤ 1000 := by rw [List.length_map] at hlx; exact hlx
          have hlx3 : (ds.take i).length ≤ 1000 := by rw [List.length_map] at hlx2; exact hlx2
          walk_at "sy"
          refine ⟨x, dd, rfl, e2.keep (Keep.of sx), hgp dd (List.mem_of_getElem? e1), ?_⟩
          walk_at "sy"
          rename_i Hy cy
          refine ⟨cy.sameOwn sx hD, ?_⟩
          rw [shown_snoc e1]
          exact cy.at_
        · rintro D hD Hx ⟨sx, hDx⟩
          rw [hvl, List.take_length] at hDx
          have hl1 : (ds.map shownS).length ≤ 10 := by rw [List.length_map]; exact hps
          have jz : ∀ y ∈ ([Str.ofString "call", x1] ++ ds.map shownS), y.length ≤ 1000 := fun y hy => by
            simp only [List.cons_append, List.nil_append, List.mem_cons] at hy
            rcases hy with rfl | rfl | hy
            · omega
            · omega
            · obtain ⟨d, h1, rfl⟩ := List.mem_map.mp hy
              exact Nat.le_trans (shown_le (hgp d h1)) (by decide)
          refine w_cat (sx _ _ n3.at_) hDx (by rw [List.length_map]; have := sizeLine_eq; simp only [List.length_cons, List.length_nil]; omega) fun p3 H3 n5 => ?_
          have hp3 : H3 p3 = some (.lst (([Str.ofString "call", x1] ++ ds.map shownS).map V.str)) := by
            rw [List.map_append]
            exact n5.at_
          have hq2 := n5.get (sx _ _ (n3.get n2.at_))
          have hl3 : (([Str.ofString "call", x1] ++ ds.map shownS).map V.str).length ≤ 12 := by rw [List.length_map, List.length_append]; simp only [List.length_cons, List.length_nil]; omega
          walk_at "sy"
          rename_i p4 H4 n6
          have n6' : New p4 (.lst (([Str.ofString "call", x1] ++ ds.map shownS).map V.str)) H3 H4 := by
            have e9 : (([Str.ofString "call", x1] ++ ds.map shownS).map V.str) ++ [] = (([Str.ofString "call", x1] ++ ds.map shownS).map V.str) := List.append_nil _
            exact e9 ▸ n6
          walk_at "sy"
          refine w_join (ys := [Str.ofString "call", x1] ++ ds.map shownS) (.inl (SqL.of n6'.at_)) (joinSz jz (by simp only [List.length_append, List.length_cons, List.length_nil]; omega) (Nat.le_of_eq blank_len)) ?_
          walk_at "sy"
          exact q _ ((n1.same.trans (n2.same.trans n3.same)).trans (sx.trans (n5.same.trans n6.same)))
      | some z =>
        obtain rfl : v0 = .str z := h0
        have hz : z.length ≤ 20 := g0 z rfl
        walk_at "sy"
        rename_i q1 B1 n1 q2 B2 n2 q3 B3 n3
        have hvs3 := hvs2.keep (n1.keep.trans (n2.keep.trans n3.keep))
        refine k_lcT vv (fun D i Hx => Same B3 Hx ∧ Hx D = some (.lst (((ds.take i).map shownS).map V.str))) (fun D Hx n => ⟨n.same, n.at_⟩) (fun D i Hx _ h => SqT.of (h.1 _ _ (by walk_at "look"))) ?_ ?_
        · rintro D hD i x Hx hx ⟨sx, hDx⟩
          obtain ⟨dd, e1, e2⟩ := hvs3.at hx
          have hi := (List.getElem?_eq_some_iff.mp e1).1
          have hlx : (((ds.take i).map shownS).map V.str).length ≤ 1000 := by
            rw [List.length_map, List.length_map, List.length_take]
            omega
          have hlx2 : ((ds.take i).map shownS).length ≤ 1000 := by rw [List.length_map] at hlx; exact hlx
          have hlx3 : (ds.take i).length ≤ 1000 := by rw [List.length_map] at hlx2; exact hlx2
          walk_at "sy"
          refine ⟨x, dd, rfl, e2.keep (Keep.of sx), hgp dd (List.mem_of_getElem? e1), ?_⟩
          walk_at "sy"
          rename_i Hy cy
          refine ⟨cy.sameOwn sx hD, ?_⟩
          rw [shown_snoc e1]
          exact cy.at_
        · rintro D hD Hx ⟨sx, hDx⟩
          rw [hvl, List.take_length] at hDx
          have hl1 : (ds.map shownS).length ≤ 10 := by rw [List.length_map]; exact hps
          have jz : ∀ y ∈ ([Str.ofString "call", x1] ++ ds.map shownS), y.length ≤ 1000 := fun y hy => by
            simp only [List.cons_append, List.nil_append, List.mem_cons] at hy
            rcases hy with rfl | rfl | hy
            · omega
            · omega
            · obtain ⟨d, h1, rfl⟩ := List.mem_map.mp hy
              exact Nat.le_trans (shown_le (hgp d h1)) (by decide)
          refine w_cat (sx _ _ n3.at_) hDx (by rw [List.length_map]; have := sizeLine_eq; simp only [List.length_cons, List.length_nil]; omega) fun p3 H3 n5 => ?_
          have hp3 : H3 p3 = some (.lst (([Str.ofString "call", x1] ++ ds.map shownS).map V.str)) := by
            rw [List.map_append]
            exact n5.at_
          have hq2 := n5.get (sx _ _ (n3.get n2.at_))
          have hl3 : (([Str.ofString "call", x1] ++ ds.map shownS).map V.str).length ≤ 12 := by rw [List.length_map, List.length_append]; simp only [List.length_cons, List.length_nil]; omega
          walk_at "sy"
          rename_i p4 H4 n6
          have hp5 : H4 p4 = some (.lst (([Str.ofString "call", x1] ++ ds.map shownS ++ optS (some z)).map V.str)) := by
            rw [List.map_append]
            exact n6.at_
          walk_at "sy"
          refine w_join (ys := [Str.ofString "call", x1] ++ ds.map shownS ++ optS (some z)) (.inl (SqL.of hp5)) (joinSz (fun y hy => ?_) (by simp only [optS, List.length_append, List.length_cons, List.length_nil]; omega) (Nat.le_of_eq blank_len)) ?_
          · rcases List.mem_append.mp hy with hy | hy
            · exact jz y hy
            · simp only [optS, List.mem_cons, List.not_mem_nil, or_false] at hy
              rcases hy with rfl | rfl
              · omega
              · omega
          walk_at "sy"
          exact q _ ((n1.same.trans (n2.same.trans n3.same)).trans (sx.trans (n5.same.trans n6.same)))
    | _ => cases hb
/-- a plain row's first part is none of the words that have a way of their own -/
theorem plain_word {r : Rw} (h : isPlain r = true) : ∃ (w : Str) (ds : List Dt), partsD r = .str w :: ds ∧ ¬ w = Str.ofString "set" ∧ ¬ w = Str.ofString "if" ∧ ¬ w = Str.ofString "while" ∧ ¬ w = Str.ofString "has" ∧ ¬ w = Str.ofString "make" ∧ ¬ w = Str.ofString "call" := by
  cases r with
  | set x0 x1 x2 x3 => cases h
  | make x0 x1 x2 => cases h
  | has x0 x1 => cases h
  | call x0 x1 x2 => cases h
  | lend b x0 x1 => cases b <;> exact ⟨_, _, rfl, by decide +kernel, by decide +kernel, by decide +kernel, by decide +kernel, by decide +kernel, by decide +kernel⟩
  | _ => exact ⟨_, _, rfl, by decide +kernel, by decide +kernel, by decide +kernel, by decide +kernel, by decide +kernel, by decide +kernel⟩
theorem toldP (r : Rw) : toldD r = .tup (partsD r) := by cases r <;> rfl
theorem parts_len (r : Rw) : (partsD r).length ≤ 10 := by cases r <;> simp [partsD, toldD]
theorem ok_l_head1 (T : Tx K mg) : FnOk P w K mg base CX0 2 T.f_l_head T.d_l_head ["_law_told"] (spLHead isPlain) := by
  refine T.F_l_head.ok sc_l_head (fun vs H Q E h => ?_) (fun cdv A outer s H vs Q E hr h => ?_)
  · obtain ⟨v, r, rfl, _⟩ := h
    rfl
  · obtain ⟨v, r, rfl, hv, hb, hg, q⟩ := h
    refine ⟨_, (pss_cons (ps_set (i := 1) sc_l_head.nd rfl (Or.inl rfl) (pe_ix (ix_tupK (K := K) rfl) (pv 0) pe_int (fun _ _ => rfl)))
      (pss_cons (ps_if (PW.pt (pw_and (pt_cmpR op_eq (pv 1) pe_str (nomark _)) (pw_and1 (pt_cmpR op_ne (pe_ix (ix_tupK (K := K) rfl) (pv 0) pe_int (fun _ _ => rfl)) pe_str (nomark _)))))
        (pss_one (ps_ret (pe_join pe_str (pe_lc (own := [("_law_part", 3)]) (g := gName 3) (tt := tYes) rfl sc_l_head.nd (pi_tupK (K := K) rfl (pv 0)) (blkOk_by (own := [("_law_part", 3)]) (N := ["_law_told", "_law_word_here", "_law_ends", "_law_part", "_law_atom_here", "_law_thing"]) (sc := defScope s_l_head) (by decide +kernel)) (fun _ _ _ _ _ => pg_name (i := 3) sc_l_head.nd rfl (Or.inl rfl)) (fun _ _ _ _ _ => pts_nil) (fun _ _ _ _ _ => (pe_callTy call_strK (by rfl) T.n_str PyProof.Rows.boot_str (pa_cons (pv 3) pa_nil)))))))
        pss_nil)
      (pss_cons (ps_if (pt_cmpR (in_seqK (K := K) rfl) (pv 1) (pe_tup (pa_cons pe_str (pa_cons pe_str (pa_cons pe_str pa_nil)))) (by rfl))
        (pss_one (ps_ret (pe_join pe_str (pe_op op_cat (pe_lst (pa_cons (pv 1) (pa_cons (pe_callTy call_strK (by rfl) T.n_str PyProof.Rows.boot_str (pa_cons (pe_ix (ix_tupK (K := K) rfl) (pv 0) pe_int (fun _ _ => rfl)) pa_nil)) pa_nil))) (pe_op op_rep (pe_lst (pa_cons (pe_callTy (call_strM hr) (by rfl) T.n_str PyProof.Rows.boot_str (pa_cons (pe_ix (ix_tupK (K := K) rfl) (pv 0) pe_int (fun _ _ => rfl)) pa_nil)) pa_nil)) (pe_callTy call_int1 (by rfl) T.n_int PyProof.Rows.boot_int (pa_cons (pe_cmpR op_eq (pv 1) pe_str (nomark _)) pa_nil)))))))
        pss_nil)
      (pss_cons (ps_if (pt_cmpR op_eq (pv 1) pe_str (nomark _))
        (pss_one (ps_ret (pe_op op_add_str (pe_op op_add_str (pe_op op_add_str pe_str (pe_ix (ix_tupK (K := K) rfl) (pv 0) pe_int (fun _ _ => rfl))) pe_str) (pe_call (ok_l_shown T) (hr.mono (by omega)) rfl T.m_l_shown T.F_l_shown.kp T.B_l_shown .nil pass0 (pa_cons (pe_ix (ix_tupK (K := K) rfl) (pv 0) pe_int (fun _ _ => rfl)) pa_nil)))))
        pss_nil)
      (pss_cons (ps_if (pt_cmpR op_eq (pv 1) pe_str (nomark _))
        (pss_one (ps_ret (pe_join pe_str (pe_op op_cat (pe_lst (pa_cons (pv 1) (pa_cons (pe_ix (ix_tupK (K := K) rfl) (pv 0) pe_int (fun _ _ => rfl)) (pa_cons (pe_ix (ix_tupK (K := K) rfl) (pv 0) pe_int (fun _ _ => rfl)) pa_nil)))) (pe_lc (own := [("_law_atom_here", 4)]) (g := gName 4) (tt := tYes) rfl sc_l_head.nd (pi_tupK (K := K) rfl (pe_ix (ix_tupK (K := K) rfl) (pv 0) pe_int (fun _ _ => rfl))) (blkOk_by (own := [("_law_atom_here", 4)]) (N := ["_law_told", "_law_word_here", "_law_ends", "_law_part", "_law_atom_here", "_law_thing"]) (sc := defScope s_l_head) (by decide +kernel)) (fun _ _ _ _ _ => pg_name (i := 4) sc_l_head.nd rfl (Or.inl rfl)) (fun _ _ _ _ _ => pts_nil) (fun _ _ _ _ _ => (pe_callTy call_strK (by rfl) T.n_str PyProof.Rows.boot_str (pa_cons (pv 4) pa_nil))))))))
        pss_nil)
      (pss_cons (ps_if (pt_cmpR op_eq (pv 1) pe_str (nomark _))
        (pss_cons (ps_set (i := 2) sc_l_head.nd rfl (Or.inl rfl) (pe_ifExp (pt_cmp (pc_isN (pe_ix (ix_tupK (K := K) rfl) (pv 0) pe_int (fun _ _ => rfl)))) (pe_lst pa_nil) (pe_lst (pa_cons pe_str (pa_cons (pe_ix (ix_tupK (K := K) rfl) (pv 0) pe_int (fun _ _ => rfl)) pa_nil)))))
        (pss_one (ps_ret (pe_join pe_str (pe_op op_cat (pe_op op_cat (pe_lst (pa_cons (pv 1) (pa_cons (pe_ix (ix_tupK (K := K) rfl) (pv 0) pe_int (fun _ _ => rfl)) pa_nil))) (pe_lc (own := [("_law_thing", 5)]) (g := gName 5) (tt := tYes) rfl sc_l_head.nd (pi_tupK (K := K) rfl (pe_ix (ix_tupK (K := K) rfl) (pv 0) pe_int (fun _ _ => rfl))) (blkOk_by (own := [("_law_thing", 5)]) (N := ["_law_told", "_law_word_here", "_law_ends", "_law_part", "_law_atom_here", "_law_thing"]) (sc := defScope s_l_head) (by decide +kernel)) (fun _ _ _ _ _ => pg_name (i := 5) sc_l_head.nd rfl (Or.inl rfl)) (fun _ _ _ _ _ => pts_nil) (fun _ _ _ _ _ => (pe_call (ok_l_shown T) (hr.mono (by omega)) rfl T.m_l_shown T.F_l_shown.kp T.B_l_shown .nil pass0 (pa_cons (pv 5) pa_nil))))) (pv 2))))))
        pss_nil)
      (pss_one (ps_ret (pe_join pe_str (pe_lc (own := [("_law_part", 3)]) (g := gName 3) (tt := tYes) rfl sc_l_head.nd (pi_tupK (K := K) rfl (pv 0)) (blkOk_by (own := [("_law_part", 3)]) (N := ["_law_told", "_law_word_here", "_law_ends", "_law_part", "_law_atom_here", "_law_thing"]) (sc := defScope s_l_head) (by decide +kernel)) (fun _ _ _ _ _ => pg_name (i := 3) sc_l_head.nd rfl (Or.inl rfl)) (fun _ _ _ _ _ => pts_nil) (fun _ _ _ _ _ => (pe_call (ok_l_shown T) (hr.mono (by omega)) rfl T.m_l_shown T.F_l_shown.kp T.B_l_shown .nil pass0 (pa_cons (pv 3) pa_nil))))))))))))), ?_⟩
    have hgp := hg.plain hb
    rw [headS_plain hb] at q
    have hps := parts_len r
    rw [toldP] at hv
    obtain ⟨w0, rest, hw, n1, n2, n3, n4, n5, n6⟩ := plain_word hb
    obtain ⟨p, vs, rfl, hp, hvs1⟩ := hv
    rw [hw] at hgp q hps hvs1
    have hvl := hvs1.len
    obtain ⟨_, vr, rfl, hw1, _⟩ := id hvs1
    obtain rfl : _ = V.str w0 := hw1
    generalize hds : (Dt.str w0 :: rest) = ds at hgp q hps hvs1 hvl
    have hat : atI (V.str w0 :: vr) 0 = some _ := atI_nat (j := 0) rfl
    walk_at "sy"
    have ne0 : ∀ z : Str, ¬ w0 = z → eqV (V.str z) (V.str w0) = false := fun z h => decide_eq_false (fun e => h e.symm)
    rw [if_neg (by unfold inV; simp [ne0 _ n1, ne0 _ n2, ne0 _ n3])]
    walk_at "sy"
    rename_i q1 B1 m1
    have hvs3 := hvs1.keep m1.keep
    refine k_lcT (V.str w0 :: vr) (fun D i Hx => Same B1 Hx ∧ Hx D = some (.lst (((ds.take i).map shownS).map V.str))) (fun D Hx n => ⟨n.same, n.at_⟩) (fun D i Hx _ h => SqT.of (h.1 _ _ (by walk_at "look"))) ?_ ?_
    · rintro D hD i x Hx hx ⟨sx, hDx⟩
      obtain ⟨dd, e1, e2⟩ := hvs3.at hx
      have hi := (List.getElem?_eq_some_iff.mp e1).1
      have hlx : (((ds.take i).map shownS).map V.str).length ≤ 1000 := by
        rw [List.length_map, List.length_map, List.length_take]
        omega
      have hlx2 : ((ds.take i).map shownS).length ≤ 1000 := by rw [List.length_map] at hlx; exact hlx
      have hlx3 : (ds.take i).length ≤ 1000 := by rw [List.length_map] at hlx2; exact hlx2
      walk_at "sy"
      refine ⟨x, dd, rfl, e2.keep (Keep.of sx), hgp dd (List.mem_of_getElem? e1), ?_⟩
      walk_at "sy"
      rename_i Hy cy
      refine ⟨cy.sameOwn sx hD, ?_⟩
      rw [shown_snoc e1]
      exact cy.at_
    · rintro D hD Hx ⟨sx, hDx⟩
      rw [hvl, List.take_length] at hDx
      refine w_join (ys := ds.map shownS) (.inl (SqL.of hDx)) (joinSz (fun y hy => by
        obtain ⟨d, h1, rfl⟩ := List.mem_map.mp hy
        exact Nat.le_trans (shown_le (hgp d h1)) (by decide)) (by rw [List.length_map]; omega) (Nat.le_of_eq blank_len)) ?_
      walk_at "sy"
      exact q _ (m1.same.trans sx)
theorem ok_l_head (T : Tx K mg) : FnOk P w K mg base CX0 2 T.f_l_head T.d_l_head ["_law_told"] (spLHead (fun _ => true)) :=
  FnOk_or (ok_l_head0 T) (ok_l_head1 T) (fun vs H Q E ⟨v, r, e, hv, _, hg, q⟩ => by
    cases hc : (hCl r == 0) with
    | true => exact .inl ⟨v, r, e, hv, hc, hg, q⟩
    | false => exact .inr ⟨v, r, e, hv, (by cases r <;> first | rfl | cases hc), hg, q⟩)
end
/-! ### the law's head of ifs and whiles -/
section
variable {P : Program} {w : World} {K : PySem.W.Frag} {mg : Str → Option Value} {base : Heap}
theorem joinB2 (a b : Str) : joinB [a, b] = a ++ Str.ofString " " ++ b := by rw [joinB, TL.join_eq]; rfl
theorem ifB : Str.ofString "if " = Str.ofString "if" ++ Str.ofString " " ∧ Str.ofString "while " = Str.ofString "while" ++ Str.ofString " " := by decide +kernel
theorem if_ne : (Str.ofString "if" ≠ Str.ofString "set") ∧ (Str.ofString "while" ≠ Str.ofString "set") := by decide +kernel
def atomE : El → Dt
  | .iff a _ _ => atD a
  | .whl a _ => atD a
  | _ => .non
/-- what may be told by str -/
def strE (e : El) : Prop := lowD (elD e) ∧ dpt (elD e) ≤ 30 ∧ szD (elD e) ≤ 8000000
def spLHeadB : Sp := fun vs H Q _ => ∃ (v : V) (e : El), vs = [v] ∧ IsD H (elD e) v ∧ ShOk (atomE e) ∧ strE e ∧ ∀ H', Same H H' → Q (.str (headE e)) H'
theorem ok_l_headB (T : Tx K mg) : FnOk P w K mg base CX0 2 T.f_l_head T.d_l_head ["_law_told"] spLHeadB := by
  refine T.F_l_head.ok sc_l_head (fun vs H Q E h => ?_) (fun cdv A outer s H vs Q E hr h => ?_)
  · obtain ⟨v, e, rfl, _⟩ := h
    rfl
  · obtain ⟨v, e, rfl, hv, ha, hs, q⟩ := h
    refine ⟨_, (pss_cons (ps_set (i := 1) sc_l_head.nd rfl (Or.inl rfl) (pe_ix (ix_tupK (K := K) rfl) (pv 0) pe_int (fun _ _ => rfl)))
      (pss_cons (ps_if (PW.pt (pw_and (pt_cmpR op_eq (pv 1) pe_str (nomark _)) (pw_and1 (pt_cmpR op_ne (pe_ix (ix_tupK (K := K) rfl) (pv 0) pe_int (fun _ _ => rfl)) pe_str (nomark _)))))
        (pss_one (ps_ret (pe_join pe_str (pe_lc (own := [("_law_part", 3)]) (g := gName 3) (tt := tYes) rfl sc_l_head.nd (pi_tupK (K := K) rfl (pv 0)) (blkOk_by (own := [("_law_part", 3)]) (N := ["_law_told", "_law_word_here", "_law_ends", "_law_part", "_law_atom_here", "_law_thing"]) (sc := defScope s_l_head) (by decide +kernel)) (fun _ _ _ _ _ => pg_name (i := 3) sc_l_head.nd rfl (Or.inl rfl)) (fun _ _ _ _ _ => pts_nil) (fun _ _ _ _ _ => (pe_callTy call_strK (by rfl) T.n_str PyProof.Rows.boot_str (pa_cons (pv 3) pa_nil)))))))
        pss_nil)
      (pss_cons (ps_if (pt_cmpR (in_seqK (K := K) rfl) (pv 1) (pe_tup (pa_cons pe_str (pa_cons pe_str (pa_cons pe_str pa_nil)))) (by rfl))
        (pss_one (ps_ret (pe_join pe_str (pe_op op_cat (pe_lst (pa_cons (pv 1) (pa_cons (pe_callTy call_strK (by rfl) T.n_str PyProof.Rows.boot_str (pa_cons (pe_ix (ix_tupK (K := K) rfl) (pv 0) pe_int (fun _ _ => rfl)) pa_nil)) pa_nil))) (pe_op op_rep (pe_lst (pa_cons (pe_callTy (call_strM hr) (by rfl) T.n_str PyProof.Rows.boot_str (pa_cons (pe_ix (ix_tupK (K := K) rfl) (pv 0) pe_int (fun _ _ => rfl)) pa_nil)) pa_nil)) (pe_callTy call_int1 (by rfl) T.n_int PyProof.Rows.boot_int (pa_cons (pe_cmpR op_eq (pv 1) pe_str (nomark _)) pa_nil)))))))
        pss_nil)
      (pss_cons (ps_if (pt_cmpR op_eq (pv 1) pe_str (nomark _))
        (pss_one (ps_ret (pe_op op_add_str (pe_op op_add_str (pe_op op_add_str pe_str (pe_ix (ix_tupK (K := K) rfl) (pv 0) pe_int (fun _ _ => rfl))) pe_str) (pe_call (ok_l_shown T) (hr.mono (by omega)) rfl T.m_l_shown T.F_l_shown.kp T.B_l_shown .nil pass0 (pa_cons (pe_ix (ix_tupK (K := K) rfl) (pv 0) pe_int (fun _ _ => rfl)) pa_nil)))))
        pss_nil)
      (pss_cons (ps_if (pt_cmpR op_eq (pv 1) pe_str (nomark _))
        (pss_one (ps_ret (pe_join pe_str (pe_op op_cat (pe_lst (pa_cons (pv 1) (pa_cons (pe_ix (ix_tupK (K := K) rfl) (pv 0) pe_int (fun _ _ => rfl)) (pa_cons (pe_ix (ix_tupK (K := K) rfl) (pv 0) pe_int (fun _ _ => rfl)) pa_nil)))) (pe_lc (own := [("_law_atom_here", 4)]) (g := gName 4) (tt := tYes) rfl sc_l_head.nd (pi_tupK (K := K) rfl (pe_ix (ix_tupK (K := K) rfl) (pv 0) pe_int (fun _ _ => rfl))) (blkOk_by (own := [("_law_atom_here", 4)]) (N := ["_law_told", "_law_word_here", "_law_ends", "_law_part", "_law_atom_here", "_law_thing"]) (sc := defScope s_l_head) (by decide +kernel)) (fun _ _ _ _ _ => pg_name (i := 4) sc_l_head.nd rfl (Or.inl rfl)) (fun _ _ _ _ _ => pts_nil) (fun _ _ _ _ _ => (pe_callTy call_strK (by rfl) T.n_str PyProof.Rows.boot_str (pa_cons (pv 4) pa_nil))))))))
        pss_nil)
      (pss_cons (ps_if (pt_cmpR op_eq (pv 1) pe_str (nomark _))
        (pss_cons (ps_set (i := 2) sc_l_head.nd rfl (Or.inl rfl) (pe_ifExp (pt_cmp (pc_isN (pe_ix (ix_tupK (K := K) rfl) (pv 0) pe_int (fun _ _ => rfl)))) (pe_lst pa_nil) (pe_lst (pa_cons pe_str (pa_cons (pe_ix (ix_tupK (K := K) rfl) (pv 0) pe_int (fun _ _ => rfl)) pa_nil)))))
        (pss_one (ps_ret (pe_join pe_str (pe_op op_cat (pe_op op_cat (pe_lst (pa_cons (pv 1) (pa_cons (pe_ix (ix_tupK (K := K) rfl) (pv 0) pe_int (fun _ _ => rfl)) pa_nil))) (pe_lc (own := [("_law_thing", 5)]) (g := gName 5) (tt := tYes) rfl sc_l_head.nd (pi_tupK (K := K) rfl (pe_ix (ix_tupK (K := K) rfl) (pv 0) pe_int (fun _ _ => rfl))) (blkOk_by (own := [("_law_thing", 5)]) (N := ["_law_told", "_law_word_here", "_law_ends", "_law_part", "_law_atom_here", "_law_thing"]) (sc := defScope s_l_head) (by decide +kernel)) (fun _ _ _ _ _ => pg_name (i := 5) sc_l_head.nd rfl (Or.inl rfl)) (fun _ _ _ _ _ => pts_nil) (fun _ _ _ _ _ => (pe_call (ok_l_shown T) (hr.mono (by omega)) rfl T.m_l_shown T.F_l_shown.kp T.B_l_shown .nil pass0 (pa_cons (pv 5) pa_nil))))) (pv 2))))))
        pss_nil)
      (pss_one (ps_ret (pe_join pe_str (pe_lc (own := [("_law_part", 3)]) (g := gName 3) (tt := tYes) rfl sc_l_head.nd (pi_tupK (K := K) rfl (pv 0)) (blkOk_by (own := [("_law_part", 3)]) (N := ["_law_told", "_law_word_here", "_law_ends", "_law_part", "_law_atom_here", "_law_thing"]) (sc := defScope s_l_head) (by decide +kernel)) (fun _ _ _ _ _ => pg_name (i := 3) sc_l_head.nd rfl (Or.inl rfl)) (fun _ _ _ _ _ => pts_nil) (fun _ _ _ _ _ => (pe_call (ok_l_shown T) (hr.mono (by omega)) rfl T.m_l_shown T.F_l_shown.kp T.B_l_shown .nil pass0 (pa_cons (pv 3) pa_nil))))))))))))), ?_⟩
    have bl := blank_len
    have il := if_len
    cases e with
    | iff a rs os =>
      obtain ⟨p, vs, rfl, hp, hvs⟩ := hv
      obtain ⟨_, vr, rfl, hw, hvs⟩ := hvs
      obtain rfl : _ = V.str (Str.ofString "if") := hw
      obtain ⟨v1, _, rfl, h1, hvs⟩ := hvs
      obtain ⟨v2, _, rfl, h2, hvs⟩ := hvs
      obtain ⟨v3, _, rfl, h3, hvs⟩ := hvs
      obtain rfl : _ = [] := hvs
      obtain ⟨s1, s2, s3⟩ := hs
      have z2 : lowDs (elDs rs) := s1.2.2.1
      have d2 : 1 + max 0 (max (dpt (atD a)) (max (1 + dpts (elDs rs)) (max (1 + dpts (elDs os)) 0))) ≤ 30 := s2
      have k2 : 7 + (10 * (Str.ofString "if").length + 2 + 2 + (szD (atD a) + 2 + (7 + szDs (elDs rs) + 2 + (7 + szDs (elDs os) + 2 + 0)))) ≤ 8000000 := s3
      have la : (atS a).length ≤ 300 := shown_le ha
      have eq : headE (.iff a rs os) = joinB [Str.ofString "if", atS a] := by
        rw [joinB2, ← ifB.1]
        rfl
      rw [eq] at q
      have hj : ∀ y ∈ [Str.ofString "if", atS a], y.length ≤ 1000 := fun y hy => by
        simp only [List.mem_cons, List.not_mem_nil, or_false] at hy
        rcases hy with rfl | rfl <;> omega
      cases a with
      | num n =>
        obtain rfl : v1 = .int (n : Int) := h1
        have hl := num_log ha.1 ha.2
        walk_at "sy"
        rename_i q0 B0 n0 q1 B1 n1
        refine .inr ⟨_, _, rfl, h2.keep (n0.keep.trans n1.keep), z2, by omega, by have := sizeLine_eq; omega, fun m hm => ?_⟩
        walk_at "sy"
        rename_i q2 B2 n2 q3 B3 n3
        rw [show (if decide (Str.ofString "if" = Str.ofString "set") = true then (1 : Int) else 0) = 0 from if_neg (by rw [decide_eq_false if_ne.1]; exact Bool.false_ne_true)] at n3
        have n3' : New q3 (.lst []) _ _ := n3
        refine w_cat (n3.get (n2.get n1.at_)) n3'.at_ (by have := sizeLine_eq; simp only [List.length_cons, List.length_nil]; omega) fun p3 H3 n5 => ?_
        walk_at "sy"
        refine w_join (ys := [Str.ofString "if", atS (.num n)]) (.inl (SqL.of n5.at_)) (joinSz hj (by simp) (Nat.le_of_eq blank_len)) ?_
        walk_at "sy"
        exact q _ (n0.same.trans (n1.same.trans (n2.same.trans (n3.same.trans n5.same))))
      | nam z =>
        obtain rfl : v1 = .str z := h1
        walk_at "sy"
        rename_i q0 B0 n0 q1 B1 n1
        refine .inr ⟨_, _, rfl, h2.keep (n0.keep.trans n1.keep), z2, by omega, by have := sizeLine_eq; omega, fun m hm => ?_⟩
        walk_at "sy"
        rename_i q2 B2 n2 q3 B3 n3
        rw [show (if decide (Str.ofString "if" = Str.ofString "set") = true then (1 : Int) else 0) = 0 from if_neg (by rw [decide_eq_false if_ne.1]; exact Bool.false_ne_true)] at n3
        have n3' : New q3 (.lst []) _ _ := n3
        refine w_cat (n3.get (n2.get n1.at_)) n3'.at_ (by have := sizeLine_eq; simp only [List.length_cons, List.length_nil]; omega) fun p3 H3 n5 => ?_
        walk_at "sy"
        refine w_join (ys := [Str.ofString "if", atS (.nam z)]) (.inl (SqL.of n5.at_)) (joinSz hj (by simp) (Nat.le_of_eq blank_len)) ?_
        walk_at "sy"
        exact q _ (n0.same.trans (n1.same.trans (n2.same.trans (n3.same.trans n5.same))))
    | whl a rs =>
      obtain ⟨p, vs, rfl, hp, hvs⟩ := hv
      obtain ⟨_, vr, rfl, hw, hvs⟩ := hvs
      obtain rfl : _ = V.str (Str.ofString "while") := hw
      obtain ⟨v1, _, rfl, h1, hvs⟩ := hvs
      obtain ⟨v2, _, rfl, h2, hvs⟩ := hvs
      obtain rfl : _ = [] := hvs
      obtain ⟨s1, s2, s3⟩ := hs
      have z2 : lowDs (elDs rs) := s1.2.2.1
      have d2 : 1 + max 0 (max (dpt (atD a)) (max (1 + dpts (elDs rs)) 0)) ≤ 30 := s2
      have k2 : 7 + (10 * (Str.ofString "while").length + 2 + 2 + (szD (atD a) + 2 + (7 + szDs (elDs rs) + 2 + 0))) ≤ 8000000 := s3
      have la : (atS a).length ≤ 300 := shown_le ha
      have eq : headE (.whl a rs) = joinB [Str.ofString "while", atS a] := by
        rw [joinB2, ← ifB.2]
        rfl
      rw [eq] at q
      have hj : ∀ y ∈ [Str.ofString "while", atS a], y.length ≤ 1000 := fun y hy => by
        simp only [List.mem_cons, List.not_mem_nil, or_false] at hy
        rcases hy with rfl | rfl <;> omega
      cases a with
      | num n =>
        obtain rfl : v1 = .int (n : Int) := h1
        have hl := num_log ha.1 ha.2
        walk_at "sy"
        rename_i q0 B0 n0 q1 B1 n1
        refine .inr ⟨_, _, rfl, h2.keep (n0.keep.trans n1.keep), z2, by omega, by have := sizeLine_eq; omega, fun m hm => ?_⟩
        walk_at "sy"
        rename_i q2 B2 n2 q3 B3 n3
        rw [show (if decide (Str.ofString "while" = Str.ofString "set") = true then (1 : Int) else 0) = 0 from if_neg (by rw [decide_eq_false if_ne.2]; exact Bool.false_ne_true)] at n3
        have n3' : New q3 (.lst []) _ _ := n3
        refine w_cat (n3.get (n2.get n1.at_)) n3'.at_ (by have := sizeLine_eq; simp only [List.length_cons, List.length_nil]; omega) fun p3 H3 n5 => ?_
        walk_at "sy"
        refine w_join (ys := [Str.ofString "while", atS (.num n)]) (.inl (SqL.of n5.at_)) (joinSz hj (by simp) (Nat.le_of_eq blank_len)) ?_
        walk_at "sy"
        exact q _ (n0.same.trans (n1.same.trans (n2.same.trans (n3.same.trans n5.same))))
      | nam z =>
        obtain rfl : v1 = .str z := h1
        walk_at "sy"
        rename_i q0 B0 n0 q1 B1 n1
        refine .inr ⟨_, _, rfl, h2.keep (n0.keep.trans n1.keep), z2, by omega, by have := sizeLine_eq; omega, fun m hm => ?_⟩
        walk_at "sy"
        rename_i q2 B2 n2 q3 B3 n3
        rw [show (if decide (Str.ofString "while" = Str.ofString "set") = true then (1 : Int) else 0) = 0 from if_neg (by rw [decide_eq_false if_ne.2]; exact Bool.false_ne_true)] at n3
        have n3' : New q3 (.lst []) _ _ := n3
        refine w_cat (n3.get (n2.get n1.at_)) n3'.at_ (by have := sizeLine_eq; simp only [List.length_cons, List.length_nil]; omega) fun p3 H3 n5 => ?_
        walk_at "sy"
        refine w_join (ys := [Str.ofString "while", atS (.nam z)]) (.inl (SqL.of n5.at_)) (joinSz hj (by simp) (Nat.le_of_eq blank_len)) ?_
        walk_at "sy"
        exact q _ (n0.same.trans (n1.same.trans (n2.same.trans (n3.same.trans n5.same))))
    | _ => exact ha.elim
end
section
variable {P : Program} {w : World} {K : PySem.W.Frag} {mg : Str → Option Value} {base : Heap}
def tHead19 (T : Tx K mg) (i : Nat) : TE := tAlt (tMeth T.a_SetRow "head" (spHead T (isK 0)) [] E0 (tVar i) tNil) (tAlt (tMeth T.a_MakeRow "head" (spHead T (isK 1)) [] E0 (tVar i) tNil) (tAlt (tMeth T.a_NoneRow "head" (spHead T isPlain) [] E0 (tVar i) tNil) (tAlt (tMeth T.a_GiveRow "head" (spHead T isPlain) [] E0 (tVar i) tNil) (tAlt (tMeth T.a_TakeRow "head" (spHead T isPlain) [] E0 (tVar i) tNil) (tAlt (tMeth T.a_FillRow "head" (spHead T isPlain) [] E0 (tVar i) tNil) (tAlt (tMeth T.a_SwapRow "head" (spHead T isPlain) [] E0 (tVar i) tNil) (tAlt (tMeth T.a_GetRow "head" (spHead T isPlain) [] E0 (tVar i) tNil) (tAlt (tMeth T.a_PutRow "head" (spHead T isPlain) [] E0 (tVar i) tNil) (tAlt (tMeth T.a_HasRow "head" (spHead T (isK 2)) [] E0 (tVar i) tNil) (tAlt (tMeth T.a_DropRow "head" (spHead T isPlain) [] E0 (tVar i) tNil) (tAlt (tMeth T.a_LendRow "head" (spHead T isPlain) [] E0 (tVar i) tNil) (tAlt (tMeth T.a_StepRow "head" (spHead T isPlain) [] E0 (tVar i) tNil) (tAlt (tMeth T.a_CallRow "head" (spHead T (isK 3)) [] E0 (tVar i) tNil) (tAlt (tMeth T.a_BackRow "head" (spHead T isPlain) [] E0 (tVar i) tNil) (tAlt (tMeth T.a_AskRow "head" (spHead T isPlain) [] E0 (tVar i) tNil) (tAlt (tMeth T.a_TellRow "head" (spHead T isPlain) [] E0 (tVar i) tNil) (tAlt (tMeth T.a_IfRow "head" (spHeadE T 0) [] E0 (tVar i) tNil) (tMeth T.a_WhileRow "head" (spHeadE T 1) [] E0 (tVar i) tNil))))))))))))))))))
section
variable {σ : St} {H : Hp} {Q : VK} {T : Tx K mg} {r : Rw} {v : V} {i : Nat}
theorem head_any (hσ : σ[i]? = some (some v)) (hv : RowAt T H r v) (hg : GoodRw r) (q : ∀ H', Same H H' → Q (.str (headS r)) H') : tHead19 T i σ H Q := by
  have hv0 := hv
  cases r with
  | set x0 x1 x2 x3 =>
    obtain ⟨p, dx, v0, v1, v2, v3, rfl, hp, h0, h1, h2, h3⟩ := hv
    exact .inl (⟨_, hσ, p, dx, _, rfl, hp, rfl, _, _, rfl, hv0, rfl, hg, q⟩)
  | make x0 x1 x2 =>
    obtain ⟨p, dx, v0, v1, v2, rfl, hp, h0, h1, h2⟩ := hv
    exact .inr (.inl (⟨_, hσ, p, dx, _, rfl, hp, rfl, _, _, rfl, hv0, rfl, hg, q⟩))
  | non x0 x1 =>
    obtain ⟨p, dx, v0, v1, rfl, hp, h0, h1⟩ := hv
    exact .inr (.inr (.inl (⟨_, hσ, p, dx, _, rfl, hp, rfl, _, _, rfl, hv0, rfl, hg, q⟩)))
  | give x0 x1 =>
    obtain ⟨p, dx, v0, v1, rfl, hp, h0, h1⟩ := hv
    exact .inr (.inr (.inr (.inl (⟨_, hσ, p, dx, _, rfl, hp, rfl, _, _, rfl, hv0, rfl, hg, q⟩))))
  | take x0 x1 =>
    obtain ⟨p, dx, v0, v1, rfl, hp, h0, h1⟩ := hv
    exact .inr (.inr (.inr (.inr (.inl (⟨_, hσ, p, dx, _, rfl, hp, rfl, _, _, rfl, hv0, rfl, hg, q⟩)))))
  | fill x0 x1 =>
    obtain ⟨p, dx, v0, v1, rfl, hp, h0, h1⟩ := hv
    exact .inr (.inr (.inr (.inr (.inr (.inl (⟨_, hσ, p, dx, _, rfl, hp, rfl, _, _, rfl, hv0, rfl, hg, q⟩))))))
  | swap x0 x1 =>
    obtain ⟨p, dx, v0, v1, rfl, hp, h0, h1⟩ := hv
    exact .inr (.inr (.inr (.inr (.inr (.inr (.inl (⟨_, hσ, p, dx, _, rfl, hp, rfl, _, _, rfl, hv0, rfl, hg, q⟩)))))))
  | get x0 x1 =>
    obtain ⟨p, dx, v0, v1, rfl, hp, h0, h1⟩ := hv
    exact .inr (.inr (.inr (.inr (.inr (.inr (.inr (.inl (⟨_, hσ, p, dx, _, rfl, hp, rfl, _, _, rfl, hv0, rfl, hg, q⟩))))))))
  | put x0 x1 =>
    obtain ⟨p, dx, v0, v1, rfl, hp, h0, h1⟩ := hv
    exact .inr (.inr (.inr (.inr (.inr (.inr (.inr (.inr (.inl (⟨_, hσ, p, dx, _, rfl, hp, rfl, _, _, rfl, hv0, rfl, hg, q⟩)))))))))
  | has x0 x1 =>
    obtain ⟨p, dx, v0, v1, rfl, hp, h0, h1⟩ := hv
    exact .inr (.inr (.inr (.inr (.inr (.inr (.inr (.inr (.inr (.inl (⟨_, hσ, p, dx, _, rfl, hp, rfl, _, _, rfl, hv0, rfl, hg, q⟩))))))))))
  | drop x0 =>
    obtain ⟨p, dx, v0, rfl, hp, h0⟩ := hv
    exact .inr (.inr (.inr (.inr (.inr (.inr (.inr (.inr (.inr (.inr (.inl (⟨_, hσ, p, dx, _, rfl, hp, rfl, _, _, rfl, hv0, rfl, hg, q⟩)))))))))))
  | lend x0 x1 x2 =>
    obtain ⟨p, dx, v0, v1, v2, rfl, hp, h0, h1, h2⟩ := hv
    exact .inr (.inr (.inr (.inr (.inr (.inr (.inr (.inr (.inr (.inr (.inr (.inl (⟨_, hσ, p, dx, _, rfl, hp, rfl, _, _, rfl, hv0, rfl, hg, q⟩))))))))))))
  | step x0 x1 =>
    obtain ⟨p, dx, v0, v1, rfl, hp, h0, h1⟩ := hv
    exact .inr (.inr (.inr (.inr (.inr (.inr (.inr (.inr (.inr (.inr (.inr (.inr (.inl (⟨_, hσ, p, dx, _, rfl, hp, rfl, _, _, rfl, hv0, rfl, hg, q⟩)))))))))))))
  | call x0 x1 x2 =>
    obtain ⟨p, dx, v0, v1, v2, rfl, hp, h0, h1, h2⟩ := hv
    exact .inr (.inr (.inr (.inr (.inr (.inr (.inr (.inr (.inr (.inr (.inr (.inr (.inr (.inl (⟨_, hσ, p, dx, _, rfl, hp, rfl, _, _, rfl, hv0, rfl, hg, q⟩))))))))))))))
  | back x0 =>
    obtain ⟨p, dx, v0, rfl, hp, h0⟩ := hv
    exact .inr (.inr (.inr (.inr (.inr (.inr (.inr (.inr (.inr (.inr (.inr (.inr (.inr (.inr (.inl (⟨_, hσ, p, dx, _, rfl, hp, rfl, _, _, rfl, hv0, rfl, hg, q⟩)))))))))))))))
  | ask x0 =>
    obtain ⟨p, dx, v0, rfl, hp, h0⟩ := hv
    exact .inr (.inr (.inr (.inr (.inr (.inr (.inr (.inr (.inr (.inr (.inr (.inr (.inr (.inr (.inr (.inl (⟨_, hσ, p, dx, _, rfl, hp, rfl, _, _, rfl, hv0, rfl, hg, q⟩))))))))))))))))
  | tell x0 =>
    obtain ⟨p, dx, v0, rfl, hp, h0⟩ := hv
    exact .inr (.inr (.inr (.inr (.inr (.inr (.inr (.inr (.inr (.inr (.inr (.inr (.inr (.inr (.inr (.inr (.inl (⟨_, hσ, p, dx, _, rfl, hp, rfl, _, _, rfl, hv0, rfl, hg, q⟩)))))))))))))))))
theorem isi_nif (hv : RowAt T H r v) (q : Q (.bl false) H) : rIsi K [v, .ref T.a_IfRow] H Q := by
  have hv0 := hv
  cases r with
  | set x0 x1 x2 x3 =>
    obtain ⟨p, dx, v0, v1, v2, v3, rfl, hp, h0, h1, h2, h3⟩ := hv
    have isa := isi_at T.isi 0 (c := T.a_SetRow) rfl
    exact w_isiO hp T.cl_SetRow isa.ha isa.hn isa.htk isa.hm (isa.hk 17 T.a_IfRow rfl) q
  | make x0 x1 x2 =>
    obtain ⟨p, dx, v0, v1, v2, rfl, hp, h0, h1, h2⟩ := hv
    have isa := isi_at T.isi 1 (c := T.a_MakeRow) rfl
    exact w_isiO hp T.cl_MakeRow isa.ha isa.hn isa.htk isa.hm (isa.hk 17 T.a_IfRow rfl) q
  | non x0 x1 =>
    obtain ⟨p, dx, v0, v1, rfl, hp, h0, h1⟩ := hv
    have isa := isi_at T.isi 2 (c := T.a_NoneRow) rfl
    exact w_isiO hp T.cl_NoneRow isa.ha isa.hn isa.htk isa.hm (isa.hk 17 T.a_IfRow rfl) q
  | give x0 x1 =>
    obtain ⟨p, dx, v0, v1, rfl, hp, h0, h1⟩ := hv
    have isa := isi_at T.isi 3 (c := T.a_GiveRow) rfl
    exact w_isiO hp T.cl_GiveRow isa.ha isa.hn isa.htk isa.hm (isa.hk 17 T.a_IfRow rfl) q
  | take x0 x1 =>
    obtain ⟨p, dx, v0, v1, rfl, hp, h0, h1⟩ := hv
    have isa := isi_at T.isi 4 (c := T.a_TakeRow) rfl
    exact w_isiO hp T.cl_TakeRow isa.ha isa.hn isa.htk isa.hm (isa.hk 17 T.a_IfRow rfl) q
  | fill x0 x1 =>
    obtain ⟨p, dx, v0, v1, rfl, hp, h0, h1⟩ := hv
    have isa := isi_at T.isi 5 (c := T.a_FillRow) rfl
    exact w_isiO hp T.cl_FillRow isa.ha isa.hn isa.htk isa.hm (isa.hk 17 T.a_IfRow rfl) q
  | swap x0 x1 =>
    obtain ⟨p, dx, v0, v1, rfl, hp, h0, h1⟩ := hv
    have isa := isi_at T.isi 6 (c := T.a_SwapRow) rfl
    exact w_isiO hp T.cl_SwapRow isa.ha isa.hn isa.htk isa.hm (isa.hk 17 T.a_IfRow rfl) q
  | get x0 x1 =>
    obtain ⟨p, dx, v0, v1, rfl, hp, h0, h1⟩ := hv
    have isa := isi_at T.isi 7 (c := T.a_GetRow) rfl
    exact w_isiO hp T.cl_GetRow isa.ha isa.hn isa.htk isa.hm (isa.hk 17 T.a_IfRow rfl) q
  | put x0 x1 =>
    obtain ⟨p, dx, v0, v1, rfl, hp, h0, h1⟩ := hv
    have isa := isi_at T.isi 8 (c := T.a_PutRow) rfl
    exact w_isiO hp T.cl_PutRow isa.ha isa.hn isa.htk isa.hm (isa.hk 17 T.a_IfRow rfl) q
  | has x0 x1 =>
    obtain ⟨p, dx, v0, v1, rfl, hp, h0, h1⟩ := hv
    have isa := isi_at T.isi 9 (c := T.a_HasRow) rfl
    exact w_isiO hp T.cl_HasRow isa.ha isa.hn isa.htk isa.hm (isa.hk 17 T.a_IfRow rfl) q
  | drop x0 =>
    obtain ⟨p, dx, v0, rfl, hp, h0⟩ := hv
    have isa := isi_at T.isi 10 (c := T.a_DropRow) rfl
    exact w_isiO hp T.cl_DropRow isa.ha isa.hn isa.htk isa.hm (isa.hk 17 T.a_IfRow rfl) q
  | lend x0 x1 x2 =>
    obtain ⟨p, dx, v0, v1, v2, rfl, hp, h0, h1, h2⟩ := hv
    have isa := isi_at T.isi 11 (c := T.a_LendRow) rfl
    exact w_isiO hp T.cl_LendRow isa.ha isa.hn isa.htk isa.hm (isa.hk 17 T.a_IfRow rfl) q
  | step x0 x1 =>
    obtain ⟨p, dx, v0, v1, rfl, hp, h0, h1⟩ := hv
    have isa := isi_at T.isi 12 (c := T.a_StepRow) rfl
    exact w_isiO hp T.cl_StepRow isa.ha isa.hn isa.htk isa.hm (isa.hk 17 T.a_IfRow rfl) q
  | call x0 x1 x2 =>
    obtain ⟨p, dx, v0, v1, v2, rfl, hp, h0, h1, h2⟩ := hv
    have isa := isi_at T.isi 13 (c := T.a_CallRow) rfl
    exact w_isiO hp T.cl_CallRow isa.ha isa.hn isa.htk isa.hm (isa.hk 17 T.a_IfRow rfl) q
  | back x0 =>
    obtain ⟨p, dx, v0, rfl, hp, h0⟩ := hv
    have isa := isi_at T.isi 14 (c := T.a_BackRow) rfl
    exact w_isiO hp T.cl_BackRow isa.ha isa.hn isa.htk isa.hm (isa.hk 17 T.a_IfRow rfl) q
  | ask x0 =>
    obtain ⟨p, dx, v0, rfl, hp, h0⟩ := hv
    have isa := isi_at T.isi 15 (c := T.a_AskRow) rfl
    exact w_isiO hp T.cl_AskRow isa.ha isa.hn isa.htk isa.hm (isa.hk 17 T.a_IfRow rfl) q
  | tell x0 =>
    obtain ⟨p, dx, v0, rfl, hp, h0⟩ := hv
    have isa := isi_at T.isi 16 (c := T.a_TellRow) rfl
    exact w_isiO hp T.cl_TellRow isa.ha isa.hn isa.htk isa.hm (isa.hk 17 T.a_IfRow rfl) q

theorem isi_nwh (hv : RowAt T H r v) (q : Q (.bl false) H) : rIsi K [v, .ref T.a_WhileRow] H Q := by
  have hv0 := hv
  cases r with
  | set x0 x1 x2 x3 =>
    obtain ⟨p, dx, v0, v1, v2, v3, rfl, hp, h0, h1, h2, h3⟩ := hv
    have isa := isi_at T.isi 0 (c := T.a_SetRow) rfl
    exact w_isiO hp T.cl_SetRow isa.ha isa.hn isa.htk isa.hm (isa.hk 18 T.a_WhileRow rfl) q
  | make x0 x1 x2 =>
    obtain ⟨p, dx, v0, v1, v2, rfl, hp, h0, h1, h2⟩ := hv
    have isa := isi_at T.isi 1 (c := T.a_MakeRow) rfl
    exact w_isiO hp T.cl_MakeRow isa.ha isa.hn isa.htk isa.hm (isa.hk 18 T.a_WhileRow rfl) q
  | non x0 x1 =>
    obtain ⟨p, dx, v0, v1, rfl, hp, h0, h1⟩ := hv
    have isa := isi_at T.isi 2 (c := T.a_NoneRow) rfl
    exact w_isiO hp T.cl_NoneRow isa.ha isa.hn isa.htk isa.hm (isa.hk 18 T.a_WhileRow rfl) q
  | give x0 x1 =>
    obtain ⟨p, dx, v0, v1, rfl, hp, h0, h1⟩ := hv
    have isa := isi_at T.isi 3 (c := T.a_GiveRow) rfl
    exact w_isiO hp T.cl_GiveRow isa.ha isa.hn isa.htk isa.hm (isa.hk 18 T.a_WhileRow rfl) q
  | take x0 x1 =>
    obtain ⟨p, dx, v0, v1, rfl, hp, h0, h1⟩ := hv
    have isa := isi_at T.isi 4 (c := T.a_TakeRow) rfl
    exact w_isiO hp T.cl_TakeRow isa.ha isa.hn isa.htk isa.hm (isa.hk 18 T.a_WhileRow rfl) q
  | fill x0 x1 =>
    obtain ⟨p, dx, v0, v1, rfl, hp, h0, h1⟩ := hv
    have isa := isi_at T.isi 5 (c := T.a_FillRow) rfl
    exact w_isiO hp T.cl_FillRow isa.ha isa.hn isa.htk isa.hm (isa.hk 18 T.a_WhileRow rfl) q
  | swap x0 x1 =>
    obtain ⟨p, dx, v0, v1, rfl, hp, h0, h1⟩ := hv
    have isa := isi_at T.isi 6 (c := T.a_SwapRow) rfl
    exact w_isiO hp T.cl_SwapRow isa.ha isa.hn isa.htk isa.hm (isa.hk 18 T.a_WhileRow rfl) q
  | get x0 x1 =>
    obtain ⟨p, dx, v0, v1, rfl, hp, h0, h1⟩ := hv
    have isa := isi_at T.isi 7 (c := T.a_GetRow) rfl
    exact w_isiO hp T.cl_GetRow isa.ha isa.hn isa.htk isa.hm (isa.hk 18 T.a_WhileRow rfl) q
  | put x0 x1 =>
    obtain ⟨p, dx, v0, v1, rfl, hp, h0, h1⟩ := hv
    have isa := isi_at T.isi 8 (c := T.a_PutRow) rfl
    exact w_isiO hp T.cl_PutRow isa.ha isa.hn isa.htk isa.hm (isa.hk 18 T.a_WhileRow rfl) q
  | has x0 x1 =>
    obtain ⟨p, dx, v0, v1, rfl, hp, h0, h1⟩ := hv
    have isa := isi_at T.isi 9 (c := T.a_HasRow) rfl
    exact w_isiO hp T.cl_HasRow isa.ha isa.hn isa.htk isa.hm (isa.hk 18 T.a_WhileRow rfl) q
  | drop x0 =>
    obtain ⟨p, dx, v0, rfl, hp, h0⟩ := hv
    have isa := isi_at T.isi 10 (c := T.a_DropRow) rfl
    exact w_isiO hp T.cl_DropRow isa.ha isa.hn isa.htk isa.hm (isa.hk 18 T.a_WhileRow rfl) q
  | lend x0 x1 x2 =>
    obtain ⟨p, dx, v0, v1, v2, rfl, hp, h0, h1, h2⟩ := hv
    have isa := isi_at T.isi 11 (c := T.a_LendRow) rfl
    exact w_isiO hp T.cl_LendRow isa.ha isa.hn isa.htk isa.hm (isa.hk 18 T.a_WhileRow rfl) q
  | step x0 x1 =>
    obtain ⟨p, dx, v0, v1, rfl, hp, h0, h1⟩ := hv
    have isa := isi_at T.isi 12 (c := T.a_StepRow) rfl
    exact w_isiO hp T.cl_StepRow isa.ha isa.hn isa.htk isa.hm (isa.hk 18 T.a_WhileRow rfl) q
  | call x0 x1 x2 =>
    obtain ⟨p, dx, v0, v1, v2, rfl, hp, h0, h1, h2⟩ := hv
    have isa := isi_at T.isi 13 (c := T.a_CallRow) rfl
    exact w_isiO hp T.cl_CallRow isa.ha isa.hn isa.htk isa.hm (isa.hk 18 T.a_WhileRow rfl) q
  | back x0 =>
    obtain ⟨p, dx, v0, rfl, hp, h0⟩ := hv
    have isa := isi_at T.isi 14 (c := T.a_BackRow) rfl
    exact w_isiO hp T.cl_BackRow isa.ha isa.hn isa.htk isa.hm (isa.hk 18 T.a_WhileRow rfl) q
  | ask x0 =>
    obtain ⟨p, dx, v0, rfl, hp, h0⟩ := hv
    have isa := isi_at T.isi 15 (c := T.a_AskRow) rfl
    exact w_isiO hp T.cl_AskRow isa.ha isa.hn isa.htk isa.hm (isa.hk 18 T.a_WhileRow rfl) q
  | tell x0 =>
    obtain ⟨p, dx, v0, rfl, hp, h0⟩ := hv
    have isa := isi_at T.isi 16 (c := T.a_TellRow) rfl
    exact w_isiO hp T.cl_TellRow isa.ha isa.hn isa.htk isa.hm (isa.hk 18 T.a_WhileRow rfl) q

theorem head_el {e : El} {d : Nat} (hσ : σ[i]? = some (some v)) (hv : ElAt T H e v) (hg : goodE d e) (q : ∀ H', Same H H' → Q (.str (headE e)) H') : tHead19 T i σ H Q := by
  have hv0 := hv
  cases e with
  | row r => exact head_any hσ hv (GoodL.good (GoodN.goodL (by cases d <;> exact hg))) q
  | iff a rs os =>
    obtain ⟨p, dx, q1, q2, v0, us1, us2, rfl, hp, _⟩ := hv
    exact .inr (.inr (.inr (.inr (.inr (.inr (.inr (.inr (.inr (.inr (.inr (.inr (.inr (.inr (.inr (.inr (.inr (.inl ⟨_, hσ, p, dx, _, rfl, hp, rfl, _, _, d, rfl, hv0, rfl, hg, q⟩)))))))))))))))))
  | whl a rs =>
    obtain ⟨p, dx, q1, v0, us1, rfl, hp, _⟩ := hv
    exact .inr (.inr (.inr (.inr (.inr (.inr (.inr (.inr (.inr (.inr (.inr (.inr (.inr (.inr (.inr (.inr (.inr (.inr (⟨_, hσ, p, dx, _, rfl, hp, rfl, _, _, d, rfl, hv0, rfl, hg, q⟩))))))))))))))))))
  | _ => cases d <;> exact hg.elim
theorem isi_IfRow_IfRow {a : At} {rs os : List El} (hv : ElAt T H (.iff a rs os) v) (q : Q (.bl true) H) : rIsi K [v, .ref T.a_IfRow] H Q := by
  obtain ⟨p, dx, q1, q2, v0, us1, us2, rfl, hp, _⟩ := hv
  have isa := isi_at T.isi 17 (c := T.a_IfRow) rfl
  exact w_isiO hp T.cl_IfRow isa.ha isa.hn isa.htk isa.hm (isa.hk 17 T.a_IfRow rfl) q
theorem isi_IfRow_WhileRow {a : At} {rs os : List El} (hv : ElAt T H (.iff a rs os) v) (q : Q (.bl false) H) : rIsi K [v, .ref T.a_WhileRow] H Q := by
  obtain ⟨p, dx, q1, q2, v0, us1, us2, rfl, hp, _⟩ := hv
  have isa := isi_at T.isi 17 (c := T.a_IfRow) rfl
  exact w_isiO hp T.cl_IfRow isa.ha isa.hn isa.htk isa.hm (isa.hk 18 T.a_WhileRow rfl) q
theorem isi_WhileRow_IfRow {a : At} {rs : List El} (hv : ElAt T H (.whl a rs) v) (q : Q (.bl false) H) : rIsi K [v, .ref T.a_IfRow] H Q := by
  obtain ⟨p, dx, q1, v0, us1, rfl, hp, _⟩ := hv
  have isa := isi_at T.isi 18 (c := T.a_WhileRow) rfl
  exact w_isiO hp T.cl_WhileRow isa.ha isa.hn isa.htk isa.hm (isa.hk 17 T.a_IfRow rfl) q
theorem isi_WhileRow_WhileRow {a : At} {rs : List El} (hv : ElAt T H (.whl a rs) v) (q : Q (.bl true) H) : rIsi K [v, .ref T.a_WhileRow] H Q := by
  obtain ⟨p, dx, q1, v0, us1, rfl, hp, _⟩ := hv
  have isa := isi_at T.isi 18 (c := T.a_WhileRow) rfl
  exact w_isiO hp T.cl_WhileRow isa.ha isa.hn isa.htk isa.hm (isa.hk 18 T.a_WhileRow rfl) q
end
end
section
variable {P : Program} {w : World} {K : PySem.W.Frag} {mg : Str → Option Value} {base : Heap}
theorem ok_l_headE (T : Tx K mg) : FnOk P w K mg base CX0 2 T.f_l_head T.d_l_head ["_law_told"] (fun vs H Q E => spLHead (fun _ => true) vs H Q E ∨ spLHeadB vs H Q E) := FnOk_or (ok_l_head T) (ok_l_headB T) (fun _ _ _ _ h => h)
end
/-! ### f-strings; a tuple and (); a text times a number; extend -/
section
variable {σ : St} {H : Hp}
theorem w_jsN {acc : Str} {Q : Str → Hp → Prop} (h : Q acc H) : tJs [] acc σ H Q := h
theorem w_jsC {t : TE} {ts : List TE} {acc : Str} {Q : Str → Hp → Prop} (h : t σ H fun x H1 => ∃ y : Str, x = .str y ∧ (acc ++ y).length ≤ sizeLine ∧ tJs ts (acc ++ y) σ H1 Q) : tJs (t :: ts) acc σ H Q := h
theorem w_jsS {P : Str → Prop} {f : Str → Str} {s : Str} (z : (f s).length ≤ sizeLine) (h : P s) : ∃ y : Str, V.str s = .str y ∧ (f y).length ≤ sizeLine ∧ P y := ⟨s, rfl, z, h⟩
theorem w_fmt {te : TE} {Q : VK} (h : te σ H fun x H1 => (∃ y : Str, x = .str y ∧ y.length ≤ sizeLine ∧ Q (.str y) H1) ∨ ∃ i : Int, x = .int i ∧ i.natAbs.log2 < 1920 ∧ Q (.str (toString i)) H1) : tFmt te σ H Q := h
theorem w_fmtS {s : Str} {P : Str → Prop} {R : Int → Prop} (z : s.length ≤ sizeLine) (h : P s) : (∃ y : Str, V.str s = .str y ∧ y.length ≤ sizeLine ∧ P y) ∨ ∃ i : Int, V.str s = .int i ∧ i.natAbs.log2 < 1920 ∧ R i := .inl ⟨s, rfl, z, h⟩
theorem w_fmtI {i : Int} {P : Str → Prop} {R : Int → Prop} (z : i.natAbs.log2 < 1920) (h : R i) : (∃ y : Str, V.int i = .str y ∧ y.length ≤ sizeLine ∧ P y) ∨ ∃ j : Int, V.int i = .int j ∧ j.natAbs.log2 < 1920 ∧ R j := .inr ⟨i, rfl, z, h⟩
end
section
open PySem.Spec PyProof.Rows
/-- xs == (), whatever xs holds -/
def rEqNilT : R2 := fun x y H Q => ∃ a b xs, x = .ref a ∧ y = .ref b ∧ H a = some (.tup xs) ∧ H b = some (.tup []) ∧ Q (.bl xs.isEmpty) H
def rNeNilT : R2 := fun x y H Q => ∃ a b xs, x = .ref a ∧ y = .ref b ∧ H a = some (.tup xs) ∧ H b = some (.tup []) ∧ Q (.bl (!xs.isEmpty)) H
theorem isE {its : List Value} {xs : List V} (r : Vals xs its) : ((List.range (min its.toArray.size ([] : List Value).toArray.size)).all (fun _ => true) && its.toArray.size == ([] : List Value).toArray.size) = xs.isEmpty := by
  cases r with
  | nil => rfl
  | cons r1 r2 => simp
theorem op_eqNilT {X : Cx} (hu : X.A.units + 64 < cLine) : OpR X (compareOp .Eq) rEqNilT := by
  intro pins s σ H x y v u Q I rx ry h
  obtain ⟨a, b, xs, rfl, rfl, ha, hb, q⟩ := h
  cases rx
  cases ry
  obtain ⟨its, r, i1, _⟩ := I.tuple (.of ha)
  obtain ⟨its2, r2, i2, _⟩ := I.tuple (.of hb)
  cases r2
  refine SeqAt.RcAt.tuples (e := fun _ => true) i1 i2 (by omega) (fun j h1 h2 => by simp at h2) _ _ _ _ ?_
  rw [isE r]
  exact ⟨.bl xs.isEmpty, H, I, rfl, q⟩
theorem op_neNilT {X : Cx} (hu : X.A.units + 64 < cLine) : OpR X (compareOp .NotEq) rNeNilT := by
  intro pins s σ H x y v u Q I rx ry h
  obtain ⟨a, b, xs, rfl, rfl, ha, hb, q⟩ := h
  cases rx
  cases ry
  obtain ⟨its, r, i1, _⟩ := I.tuple (.of ha)
  obtain ⟨its2, r2, i2, _⟩ := I.tuple (.of hb)
  cases r2
  refine SeqAt.RcNeAt.tuples (e := fun _ => true) i1 i2 (by omega) (fun j h1 h2 => by simp at h2) _ _ _ _ ?_
  rw [isE r]
  exact ⟨.bl (!xs.isEmpty), H, I, rfl, q⟩
end
section
theorem w_eqNilT {H : Hp} {Q : VK} {a b : Addr} {xs : List V} (ha : H a = some (.tup xs)) (hb : H b = some (.tup [])) (h : Q (.bl xs.isEmpty) H) : rEqNilT (.ref a) (.ref b) H Q := ⟨a, b, xs, rfl, rfl, ha, hb, h⟩
theorem w_neNilT {H : Hp} {Q : VK} {a b : Addr} {xs : List V} (ha : H a = some (.tup xs)) (hb : H b = some (.tup [])) (h : Q (.bl (!xs.isEmpty)) H) : rNeNilT (.ref a) (.ref b) H Q := ⟨a, b, xs, rfl, rfl, ha, hb, h⟩
end
section
variable {σ : St} {H : Hp} {Q : VK}
theorem w_jsn3 {i j : Nat} {x y s : Str} (hi : σ[i]? = some (some (.str x))) (hj : σ[j]? = some (some (.str y))) (z : x.length + s.length + y.length ≤ 1000) {R : Str → Hp → Prop} (h : R (x ++ s ++ y) H) :
    tJs [tFmt (tVar i), tC (.str s), tFmt (tVar j)] Str.empty σ H R := by
  have e : ∀ t : Str, Str.empty ++ t = t := fun t => by
    show (⟨#[] ++ t.cps⟩ : Str) = t
    simp
  have al : ∀ a b : Str, (a ++ b).length = a.length + b.length := fun a b => by
    show (a.cps ++ b.cps).size = _
    rw [Array.size_append]
    rfl
  have hz := sizeLine_eq
  refine ⟨_, hi, .inl ⟨x, rfl, by omega, x, rfl, by rw [e]; omega, s, rfl, by rw [e, al]; omega, _, hj, .inl ⟨y, rfl, by omega, y, rfl, by rw [e, al, al]; omega, ?_⟩⟩⟩
  rw [e]
  exact h
theorem w_jsn5 {i j k : Nat} {x y u s t : Str} (hi : σ[i]? = some (some (.str x))) (hj : σ[j]? = some (some (.str y))) (hk : σ[k]? = some (some (.str u))) (z : x.length + s.length + y.length + t.length + u.length ≤ 1000) {R : Str → Hp → Prop} (h : R (x ++ s ++ y ++ t ++ u) H) :
    tJs [tFmt (tVar i), tC (.str s), tFmt (tVar j), tC (.str t), tFmt (tVar k)] Str.empty σ H R := by
  have e : ∀ t : Str, Str.empty ++ t = t := fun t => by
    show (⟨#[] ++ t.cps⟩ : Str) = t
    simp
  have al : ∀ a b : Str, (a ++ b).length = a.length + b.length := fun a b => by
    show (a.cps ++ b.cps).size = _
    rw [Array.size_append]
    rfl
  have hz := sizeLine_eq
  refine ⟨_, hi, .inl ⟨x, rfl, by omega, x, rfl, by rw [e]; omega, s, rfl, by rw [e, al]; omega, _, hj, .inl ⟨y, rfl, by omega, y, rfl, by rw [e, al, al]; omega, t, rfl, by rw [e, al, al, al]; omega, _, hk, .inl ⟨u, rfl, by omega, u, rfl, by rw [e, al, al, al, al]; omega, ?_⟩⟩⟩⟩
  rw [e]
  exact h
end
section
open PySem.Spec PyProof.Rows
/-! ### a text times a small number -/
def repS (x : Str) (n : Nat) : Str := if n = 1 then x else ⟨(List.replicate n x.cps).foldl (· ++ ·) #[]⟩
theorem op_mulS {X : Cx} : OpR X (binaryOp .Mult) (fun x y H Q => ∃ (s : Str) (n : Nat), x = .str s ∧ y = .int (n : Int) ∧ 1 ≤ n ∧ n ≤ 100 ∧ 1 ≤ s.length ∧ s.length ≤ 100 ∧ (repS s n).length ≤ sizeLine ∧ Q (.str (repS s n)) H) := by
  intro pins s σ H x y v u Q I rx ry h
  obtain ⟨z, n, rfl, rfl, h1, h2, h3, h4, h5, q⟩ := h
  obtain ⟨t, rfl⟩ := rx
  obtain ⟨t', rfl⟩ := ry
  have hz := sizeLine_eq
  have hd : ∀ k : Nat, k ≤ 10000 → Builtin.Str.tooLong k = false := fun k hk => by
    unfold Builtin.Str.tooLong
    simp only [decide_eq_false_iff_not]
    omega
  refine PySem.P.mul_str (by simp; omega) (fun _ _ => ?_) (fun _ _ => hd _ ?_) ?_
  · have : ((z.length : Nat) : Int) ≤ 100 := by omega
    have hq : (100 : Int) ≤ (2 ^ 63 - 1) / (n : Int) := by
      rw [Int.le_ediv_iff_mul_le (by omega)]
      omega
    omega
  · have : ((n : Int)).toNat = n := Int.toNat_natCast n
    rw [this]
    exact Nat.le_trans (Nat.mul_le_mul h4 h2) (by decide)
  · rw [if_neg (by omega)]
    unfold repS at q h5
    by_cases e : n = 1
    · subst e
      rw [if_pos (by rfl)]
      rw [if_pos rfl] at q
      exact ⟨.str z, H, I, ⟨t, rfl⟩, q⟩
    · rw [if_neg (by simp; omega)]
      rw [if_neg e] at q h5
      exact ⟨h5, .str _, H, I.tok _, ⟨_, rfl⟩, by rw [Int.toNat_natCast]; exact q⟩

end
def rMulS : R2 := fun x y H Q => ∃ (s : Str) (n : Nat), x = .str s ∧ y = .int (n : Int) ∧ 1 ≤ n ∧ n ≤ 100 ∧ 1 ≤ s.length ∧ s.length ≤ 100 ∧ (repS s n).length ≤ sizeLine ∧ Q (.str (repS s n)) H
theorem op_mulS2 {X : Cx} : OpR X (PySem.binaryOp .Mult) rMulS := op_mulS
/-! ### rows of text -/
def ind (n : Nat) : Str := repS (Str.ofString "  ") n
mutual
def linesE : Nat → El → List Str
  | n, .row r => [ind n ++ headS r]
  | n, .iff a rs os => (ind n ++ headE (.iff a [] [])) :: (linesEs (n + 1) rs ++ ((if os.isEmpty then [] else (ind n ++ Str.ofString "else") :: linesEs (n + 1) os) ++ [ind n ++ Str.ofString "fi"]))
  | n, .whl a rs => (ind n ++ headE (.whl a [])) :: (linesEs (n + 1) rs ++ [ind n ++ Str.ofString "od"])
  | _, .rcd _ _ => []
  | _, .hel _ _ _ _ => []
def linesEs : Nat → List El → List Str
  | _, [] => []
  | n, e :: es => linesE n e ++ linesEs n es
end
theorem linesEs_snoc (n : Nat) (e : El) : ∀ es : List El, linesEs n (es ++ [e]) = linesEs n es ++ linesE n e
  | [] => by show linesE n e ++ [] = [] ++ linesE n e; rw [List.append_nil]; rfl
  | x :: es => by
    show linesE n x ++ linesEs n (es ++ [e]) = linesE n x ++ linesEs n es ++ linesE n e
    rw [linesEs_snoc n e es, List.append_assoc]
theorem ind_len : ∀ n : Nat, 1 ≤ n → n ≤ 10 → (ind n).length ≤ 20 ∧ (Str.ofString "  ").length = 2 := by
  have h : ∀ n : Fin 11, (ind n.1).length ≤ 20 ∧ (Str.ofString "  ").length = 2 := by decide +kernel
  exact fun n h1 h2 => h ⟨n, by omega⟩
theorem head_le {r : Rw} (h : GoodRw r) : (headS r).length ≤ 4300 := by
  have w : (Str.ofString "set").length ≤ 300 ∧ (Str.ofString "has").length ≤ 300 ∧ (Str.ofString "make").length ≤ 300 ∧ (Str.ofString "call").length ≤ 300 ∧ (Str.ofString "to").length ≤ 300 := by decide +kernel
  have jl : ∀ ys : List Str, (∀ y ∈ ys, y.length ≤ 300) → ys.length ≤ 14 → (joinB ys).length ≤ 4300 := fun ys hy hl => by
    have := join_le (s := Str.ofString " ") (Nat.le_of_eq blank_len) hy
    have h2 : (300 + 1) * ys.length ≤ 301 * 14 := Nat.mul_le_mul (Nat.le_refl _) hl
    show (Txt.join _ _).length ≤ _
    omega
  have two : ∀ {a : Str} {l : List Str}, a.length ≤ 300 → (∀ y ∈ l, y.length ≤ 300) → ∀ y ∈ a :: l, y.length ≤ 300 := fun h1 h2 y hy => by
    rcases List.mem_cons.mp hy with rfl | hy
    · exact h1
    · exact h2 y hy
  have nil : ∀ y ∈ ([] : List Str), y.length ≤ 300 := fun y hy => by cases hy
  cases r with
  | set x a g b =>
    have h0 : x.length ≤ 20 := h (.str x) (by simp [partsD, toldD])
    have h1 : ShOk (atD a) := h (atD a) (by simp [partsD, toldD])
    have h2 : g.length ≤ 20 := h (.str g) (by simp [partsD, toldD])
    have h3 : ShOk (atD b) := h (atD b) (by simp [partsD, toldD])
    show (if g = Str.ofString "" then joinB [Str.ofString "set", x, atS a] else joinB [Str.ofString "set", x, atS a, g, atS b]).length ≤ 4300
    split
    · exact jl _ (two w.1 (two (by omega) (two (shown_le h1) nil))) (by simp)
    · exact jl _ (two w.1 (two (by omega) (two (shown_le h1) (two (by omega) (two (shown_le h3) nil))))) (by simp)
  | make x r as =>
    refine jl _ (two w.2.2.1 (two (by have := h.1; omega) (two (by have := h.2.1; omega) fun y hy => ?_))) (by simp; have := h.2.2.1; omega)
    obtain ⟨a, ha, rfl⟩ := List.mem_map.mp hy
    exact shown_le (h.2.2.2 a ha)
  | has x p =>
    have h0 : x.length ≤ 20 := h (.str x) (by simp [partsD, toldD])
    have h1 : ShOk (pathD p) := h (pathD p) (by simp [partsD, toldD])
    exact jl _ (two w.1 (two (by omega) (two w.2.1 (two (shown_le h1) nil)))) (by simp)
  | call n h' gs =>
    have hl : gs.length ≤ 10 := h.2.2.1
    have ho : (optS n).length ≤ 2 := by cases n <;> simp [optS]
    refine jl ([Str.ofString "call", h'] ++ gs.map gvS ++ optS n) (fun y hy => ?_) (by simp only [List.length_append, List.length_cons, List.length_nil, List.length_map]; omega)
    rcases List.mem_append.mp hy with hy | hy
    · rcases List.mem_append.mp hy with hy | hy
      · exact two w.2.2.2.1 (two (by have := h.2.1; omega) nil) y hy
      · obtain ⟨g, hg, rfl⟩ := List.mem_map.mp hy
        exact shown_le (h.2.2.2 g hg)
    · cases n with
      | none => cases hy
      | some z => exact two w.2.2.2.2 (two (by have := h.1 z rfl; omega) nil) y hy
  | lend b x p => exact jl _ (fun y hy => by obtain ⟨d, hd, rfl⟩ := List.mem_map.mp hy; exact shown_le (h d hd)) (by cases b <;> simp [partsD, toldD])
  | _ => exact jl _ (fun y hy => by obtain ⟨d, hd, rfl⟩ := List.mem_map.mp hy; exact shown_le (h d hd)) (by simp [partsD, toldD])
theorem cnt_pos : ∀ e : El, 1 ≤ cntE e
  | .row _ => Nat.le_refl _
  | .iff _ _ _ => by show 1 ≤ 1 + _ + _; omega
  | .whl _ _ => by show 1 ≤ 1 + _; omega
  | .rcd _ _ => Nat.le_refl _
  | .hel _ _ _ _ => by show 1 ≤ 1 + _; omega
mutual
theorem lines_cnt : ∀ (n : Nat) (e : El), (linesE n e).length ≤ 3 * cntE e
  | n, .row r => by show 1 ≤ 3 * 1; omega
  | n, .iff a rs os => by
    have h1 := lines_cnts (n + 1) rs
    have h2 := lines_cnts (n + 1) os
    show (_ :: (linesEs (n + 1) rs ++ ((if os.isEmpty then [] else (ind n ++ Str.ofString "else") :: linesEs (n + 1) os) ++ [ind n ++ Str.ofString "fi"]))).length ≤ 3 * (1 + cntEs rs + cntEs os)
    have h3 : (if os.isEmpty then [] else (ind n ++ Str.ofString "else") :: linesEs (n + 1) os).length ≤ 1 + 3 * cntEs os := by
      split
      · simp
      · rw [List.length_cons]; omega
    simp only [List.length_cons, List.length_append, List.length_nil]
    omega
  | n, .whl a rs => by
    have h1 := lines_cnts (n + 1) rs
    show (_ :: (linesEs (n + 1) rs ++ [ind n ++ Str.ofString "od"])).length ≤ 3 * (1 + cntEs rs)
    simp only [List.length_cons, List.length_append, List.length_nil]
    omega
  | n, .rcd _ _ => Nat.zero_le _
  | n, .hel _ _ _ _ => Nat.zero_le _
theorem lines_cnts : ∀ (n : Nat) (es : List El), (linesEs n es).length ≤ 3 * cntEs es
  | n, [] => Nat.zero_le _
  | n, e :: es => by
    have h1 := lines_cnt n e
    have h2 := lines_cnts n es
    show (linesE n e ++ linesEs n es).length ≤ 3 * (cntE e + cntEs es)
    rw [List.length_append]
    omega
end
def goodEs (d : Nat) (es : List El) : Prop := ∀ e ∈ es, goodE d e
theorem headE_le {e : El} {d : Nat} (h : goodE d e) : (headE e).length ≤ 4300 := by
  have wl := if_len
  cases e with
  | row r => exact head_le (GoodL.good (GoodN.goodL (by cases d <;> exact h)))
  | iff a rs os =>
    have ha : atOk a := by
      cases d with
      | zero => exact h.elim
      | succ d => exact h.1
    have := at_le ha.shl.ok
    show (Str.ofString "if " ++ atS a).length ≤ 4300
    rw [app_len]
    omega
  | whl a rs =>
    have ha : atOk a := by
      cases d with
      | zero => exact h.elim
      | succ d => exact h.1
    have := at_le ha.shl.ok
    show (Str.ofString "while " ++ atS a).length ≤ 4300
    rw [app_len]
    omega
  | _ => cases d <;> exact h.elim
theorem word2_len : (Str.ofString "else").length = 4 ∧ (Str.ofString "fi").length = 2 ∧ (Str.ofString "od").length = 2 := by decide +kernel
theorem lines_lens : ∀ (d n : Nat) (es : List El), 1 ≤ n → n + d ≤ 10 → goodEs d es → ∀ l ∈ linesEs n es, l.length ≤ 5000
  | _, _, [], _, _, _ => fun l hl => by cases hl
  | d, n, e :: es, h1, h2, hg => fun l hl => by
    have wl := word2_len
    have il := (ind_len n h1 (by omega)).1
    rcases List.mem_append.mp (show l ∈ linesE n e ++ linesEs n es from hl) with hl | hl
    · have he : goodE d e := hg e (List.mem_cons_self ..)
      have hh := headE_le he
      cases e with
      | row r =>
        have hl : l ∈ [ind n ++ headS r] := hl
        rw [List.mem_singleton.mp hl, app_len]
        have hh : (headS r).length ≤ 4300 := hh
        omega
      | iff a rs os =>
        cases d with
        | zero => exact he.elim
        | succ d =>
          have hl : l ∈ _ :: (linesEs (n + 1) rs ++ ((if os.isEmpty then [] else (ind n ++ Str.ofString "else") :: linesEs (n + 1) os) ++ [ind n ++ Str.ofString "fi"])) := hl
          have hh : (headE (.iff a [] [])).length ≤ 4300 := hh
          rcases List.mem_cons.mp hl with rfl | hl
          · rw [app_len]; omega
          rcases List.mem_append.mp hl with hl | hl
          · exact lines_lens d (n + 1) rs (by omega) (by omega) he.2.1 l hl
          rcases List.mem_append.mp hl with hl | hl
          · split at hl
            · cases hl
            · rcases List.mem_cons.mp hl with rfl | hl
              · rw [app_len]; omega
              · exact lines_lens d (n + 1) os (by omega) (by omega) he.2.2 l hl
          · rw [List.mem_singleton.mp hl, app_len]; omega
      | whl a rs =>
        cases d with
        | zero => exact he.elim
        | succ d =>
          have hl : l ∈ _ :: (linesEs (n + 1) rs ++ [ind n ++ Str.ofString "od"]) := hl
          have hh : (headE (.whl a [])).length ≤ 4300 := hh
          rcases List.mem_cons.mp hl with rfl | hl
          · rw [app_len]; omega
          rcases List.mem_append.mp hl with hl | hl
          · exact lines_lens d (n + 1) rs (by omega) (by omega) he.2 l hl
          · rw [List.mem_singleton.mp hl, app_len]; omega
      | _ => cases d <;> exact he.elim
    · exact lines_lens d n es h1 h2 (fun x hx => hg x (List.mem_cons_of_mem _ hx)) l hl
termination_by d _ es => (d, es.length)
theorem w_ind {n : Nat} {H : Hp} {Q : VK} (h1 : 1 ≤ n) (h2 : n ≤ 10) (h : Q (.str (ind n)) H) : rMulS (.str (Str.ofString "  ")) (.int (n : Int)) H Q := by
  have hl := ind_len n h1 h2
  exact ⟨_, n, rfl, rfl, h1, by omega, by omega, by omega, by have := sizeLine_eq; have : (repS (Str.ofString "  ") n).length ≤ 20 := hl.1; omega, h⟩
theorem takeL_snoc {es : List El} {i : Nat} {e : El} (n : Nat) (h : es[i]? = some e) : linesEs n (es.take (i + 1)) = linesEs n (es.take i) ++ linesE n e := by
  rw [take_snoc h, linesEs_snoc]
theorem sz_mem : ∀ {es : List El} {e : El}, e ∈ es → szD (elD e) ≤ szDs (elDs es)
  | a :: es, e, h => by
    show _ ≤ szD (elD a) + 2 + szDs (elDs es)
    rcases List.mem_cons.mp h with rfl | h
    · omega
    · have := sz_mem h
      omega
/-- what stands at every depth -/
def okS (d : Nat) (e : El) : Prop := okG d e ∧ szD (elD e) ≤ 8000000
theorem okS.str {d : Nat} {e : El} (h : okS d e) (l : d ≤ 4) : strE e := ⟨h.1.2.2.2.2, by have := h.1.2.2.1; omega, h.2⟩
theorem low_mem : ∀ {ds : List Dt} {d : Dt}, lowDs ds → d ∈ ds → lowD d
  | a :: ds, d, h, m => by
    rcases List.mem_cons.mp m with rfl | m
    · exact h.1
    · exact low_mem h.2 m
theorem okG_part {d : Nat} {rs : List El} (h1 : ∀ e ∈ rs, okM d e) (h2 : smallDs (elDs rs)) (h3 : dpts (elDs rs) ≤ 3 + 2 * d) (h4 : ∀ e ∈ rs, goodE d e) (h5 : lowDs (elDs rs)) : ∀ e ∈ rs, okG d e := fun e m => by
  have hm : elD e ∈ elDs rs := by
    rw [elDs_eq]
    exact List.mem_map_of_mem m
  exact ⟨h1 e m, small_mem h2 hm, by have := dpt_mem hm; omega, h4 e m, low_mem h5 hm⟩
theorem okG_ifp {d : Nat} {a : At} {rs os : List El} (h : okG (d + 1) (.iff a rs os)) : (∀ e ∈ rs, okG d e) ∧ ∀ e ∈ os, okG d e := by
  obtain ⟨h1, h2, h3, h4, h5⟩ := h
  have d2 : 1 + max 0 (max (dpt (atD a)) (max (1 + dpts (elDs rs)) (max (1 + dpts (elDs os)) 0))) ≤ 3 + 2 * (d + 1) := h3
  exact ⟨okG_part h1.2.2.1 h2.2.2.2.1.2 (by omega) h4.2.1 h5.2.2.1, okG_part h1.2.2.2 h2.2.2.2.2.1.2 (by omega) h4.2.2 h5.2.2.2.1⟩
theorem okG_whp {d : Nat} {a : At} {rs : List El} (h : okG (d + 1) (.whl a rs)) : ∀ e ∈ rs, okG d e := by
  obtain ⟨h1, h2, h3, h4, h5⟩ := h
  have d2 : 1 + max 0 (max (dpt (atD a)) (max (1 + dpts (elDs rs)) 0)) ≤ 3 + 2 * (d + 1) := h3
  exact okG_part h1.2 h2.2.2.2.1.2 (by omega) h4.2 h5.2.2.1
theorem okS.wh {d : Nat} {a : At} {rs : List El} (h : okS (d + 1) (.whl a rs)) : ∀ e ∈ rs, okS d e := by
  have h2 : 7 + (10 * (Str.ofString "while").length + 2 + 2 + (szD (atD a) + 2 + (7 + szDs (elDs rs) + 2 + 0))) ≤ 8000000 := h.2
  exact fun e m => ⟨okG_whp h.1 e m, by have := sz_mem m; omega⟩
theorem okS.if {d : Nat} {a : At} {rs os : List El} (h : okS (d + 1) (.iff a rs os)) : (∀ e ∈ rs, okS d e) ∧ ∀ e ∈ os, okS d e := by
  have h2 : 7 + (10 * (Str.ofString "if").length + 2 + 2 + (szD (atD a) + 2 + (7 + szDs (elDs rs) + 2 + (7 + szDs (elDs os) + 2 + 0)))) ≤ 8000000 := h.2
  exact ⟨fun e m => ⟨(okG_ifp h.1).1 e m, by have := sz_mem m; omega⟩, fun e m => ⟨(okG_ifp h.1).2 e m, by have := sz_mem m; omega⟩⟩
/-! ### rows written -/
section
variable {P : Program} {w : World} {K : PySem.W.Frag} {mg : Str → Option Value} {base : Heap}
def spWritten (T : Tx K mg) (d : Nat) : Sp := fun vs H Q _ => ∃ (p : Addr) (us : List V) (es : List El) (n : Nat), vs = [.ref p, .int (n : Int)] ∧ H p = some (.tup us) ∧ ElsAt T H es us ∧ 1 ≤ n ∧ n + d ≤ 10 ∧ (∀ e ∈ es, okG d e) ∧ cntEs es ≤ 100 ∧
  ∀ (H' : Hp) (q : Addr), Same H H' → H' q = some (.lst ((linesEs n es).map V.str)) → Q (.ref q) H'
def spWrittenP (T : Tx K mg) : Nat → Sp
  | 0 => fun _ _ _ _ => False
  | d + 1 => spWritten T d
theorem strs_len (l : List Str) : (l.map V.str).length = l.length := List.length_map ..
theorem w_ext {l b : Addr} {xs zs : List V} {H : Hp} {Q : VK} (ha : H l = some (.lst xs)) (hb : H b = some (.lst zs)) (hz : xs.length + zs.length ≤ sizeLine) (q : ∀ H', Chg l (.lst xs) (.lst (xs ++ zs)) H H' → Q .non H') : rExtend (.ref l) [.ref b] H Q := ⟨l, b, xs, zs, rfl, rfl, ha, hb, hz, q _ (Chg.mk' ha)⟩
theorem cnt_take {es : List El} {i : Nat} {e : El} (h : es[i]? = some e) : cntEs (es.take (i + 1)) = cntEs (es.take i) + cntE e := by rw [take_snoc h, cntEs_snoc]
theorem cnt_le : ∀ (es : List El) (i : Nat), cntEs (es.take i) ≤ cntEs es
  | [], i => by simp
  | e :: es, 0 => Nat.zero_le _
  | e :: es, i + 1 => by
    have := cnt_le es i
    show cntE e + cntEs (es.take i) ≤ cntE e + cntEs es
    omega
theorem ok_rows_writtenI {j d : Nat} (T : Tx K mg) (ih : FnOk P w K mg base CX0 (j + 3) T.f_rows_written T.d_rows_written ["rows", "deep"] (spWrittenP T d)) : FnOk P w K mg base CX0 (j + 4) T.f_rows_written T.d_rows_written ["rows", "deep"] (spWritten T d) := by
  refine T.F_rows_written.ok sc_rows_written (fun vs H Q E h => ?_) (fun cdv A outer s H vs Q E hr h => ?_)
  · obtain ⟨p, us, es, n, rfl, _⟩ := h
    rfl
  · obtain ⟨p, us, es, n, rfl, hp, hus, hn1, hnd, hok, hct, q⟩ := h
    refine ⟨_, (pss_cons (ps_set (i := 2) sc_rows_written.nd rfl (Or.inl rfl) (pe_op op_mulS2 pe_str (pv 1)))
      (pss_cons (ps_set (i := 3) sc_rows_written.nd rfl (Or.inl rfl) (pe_lst pa_nil))
      (pss_cons (ps_for PassesOwn.never rfl (pi_tupK (K := K) rfl (pv 0)) (pg_name (i := 4) sc_rows_written.nd rfl (Or.inl rfl))
        (pss_cons (ps_expr (pe_bm PySem.F.plainAttrs_list PySem.F.slot_list_append PySem.F.type_list_append mt_append (pv 3) (pa_cons (pe_op op_add_str (pv 2) (peAlt (pe_meth0 (pv 4) T.cl_SetRow T.M_SetRow_head (ok_SetRow_head T) (hr.mono (by omega)) T.B_SetRow_head .nil pass0) (peAlt (pe_meth0 (pv 4) T.cl_MakeRow T.M_MakeRow_head (ok_MakeRow_head T) (hr.mono (by omega)) T.B_MakeRow_head .nil pass0) (peAlt (pe_meth0 (pv 4) T.cl_NoneRow T.M_NoneRow_head (ok_Row_head T) (hr.mono (by omega)) T.B_Row_head .nil pass0) (peAlt (pe_meth0 (pv 4) T.cl_GiveRow T.M_GiveRow_head (ok_Row_head T) (hr.mono (by omega)) T.B_Row_head .nil pass0) (peAlt (pe_meth0 (pv 4) T.cl_TakeRow T.M_TakeRow_head (ok_Row_head T) (hr.mono (by omega)) T.B_Row_head .nil pass0) (peAlt (pe_meth0 (pv 4) T.cl_FillRow T.M_FillRow_head (ok_Row_head T) (hr.mono (by omega)) T.B_Row_head .nil pass0) (peAlt (pe_meth0 (pv 4) T.cl_SwapRow T.M_SwapRow_head (ok_Row_head T) (hr.mono (by omega)) T.B_Row_head .nil pass0) (peAlt (pe_meth0 (pv 4) T.cl_GetRow T.M_GetRow_head (ok_Row_head T) (hr.mono (by omega)) T.B_Row_head .nil pass0) (peAlt (pe_meth0 (pv 4) T.cl_PutRow T.M_PutRow_head (ok_Row_head T) (hr.mono (by omega)) T.B_Row_head .nil pass0) (peAlt (pe_meth0 (pv 4) T.cl_HasRow T.M_HasRow_head (ok_HasRow_head T) (hr.mono (by omega)) T.B_HasRow_head .nil pass0) (peAlt (pe_meth0 (pv 4) T.cl_DropRow T.M_DropRow_head (ok_Row_head T) (hr.mono (by omega)) T.B_Row_head .nil pass0) (peAlt (pe_meth0 (pv 4) T.cl_LendRow T.M_LendRow_head (ok_Row_head T) (hr.mono (by omega)) T.B_Row_head .nil pass0) (peAlt (pe_meth0 (pv 4) T.cl_StepRow T.M_StepRow_head (ok_Row_head T) (hr.mono (by omega)) T.B_Row_head .nil pass0) (peAlt (pe_meth0 (pv 4) T.cl_CallRow T.M_CallRow_head (ok_CallRow_head T) (hr.mono (by omega)) T.B_CallRow_head .nil pass0) (peAlt (pe_meth0 (pv 4) T.cl_BackRow T.M_BackRow_head (ok_Row_head T) (hr.mono (by omega)) T.B_Row_head .nil pass0) (peAlt (pe_meth0 (pv 4) T.cl_AskRow T.M_AskRow_head (ok_Row_head T) (hr.mono (by omega)) T.B_Row_head .nil pass0) (peAlt (pe_meth0 (pv 4) T.cl_TellRow T.M_TellRow_head (ok_Row_head T) (hr.mono (by omega)) T.B_Row_head .nil pass0) (peAlt (pe_meth0 (pv 4) T.cl_IfRow T.M_IfRow_head (ok_IfRow_head T) (hr.mono (by omega)) T.B_IfRow_head .nil pass0) (pe_meth0 (pv 4) T.cl_WhileRow T.M_WhileRow_head (ok_WhileRow_head T) (hr.mono (by omega)) T.B_WhileRow_head .nil pass0)))))))))))))))))))) pa_nil)))
        (pss_cons (ps_if (pt_val (pe_callB (isiK (K := K) rfl) (by rfl) T.n_isinstance PyProof.Rows.boot_isinstance (pa_cons (pv 4) (pa_cons (pe_glob (v := .ref T.a_IfRow) rfl T.c_IfRow rfl) pa_nil))))
          (pss_cons (ps_expr (pe_bm PySem.F.plainAttrs_list PySem.F.slot_list_extend PySem.F.type_list_extend mt_extend (pv 3) (pa_cons (pe_call ih (hr.mono (by omega)) rfl T.m_rows_written T.F_rows_written.kp T.B_rows_written .nil pass0 (pa_cons (fldK (K := K) rfl (pv 4) rfl) (pa_cons (pe_op op_add (pv 1) pe_int) pa_nil))) pa_nil)))
          (pss_cons (ps_if (pt_cmpR (op_neNilT hr.units) (fldK (K := K) rfl (pv 4) rfl) (pe_tup pa_nil) (nomark _))
            (pss_cons (ps_expr (pe_bm PySem.F.plainAttrs_list PySem.F.slot_list_append PySem.F.type_list_append mt_append (pv 3) (pa_cons (pe_op op_add_str (pv 2) pe_str) pa_nil)))
            (pss_one (ps_expr (pe_bm PySem.F.plainAttrs_list PySem.F.slot_list_extend PySem.F.type_list_extend mt_extend (pv 3) (pa_cons (pe_call ih (hr.mono (by omega)) rfl T.m_rows_written T.F_rows_written.kp T.B_rows_written .nil pass0 (pa_cons (fldK (K := K) rfl (pv 4) rfl) (pa_cons (pe_op op_add (pv 1) pe_int) pa_nil))) pa_nil)))))
            pss_nil)
          (pss_one (ps_expr (pe_bm PySem.F.plainAttrs_list PySem.F.slot_list_append PySem.F.type_list_append mt_append (pv 3) (pa_cons (pe_op op_add_str (pv 2) pe_str) pa_nil))))))
          pss_nil)
        (pss_one (ps_if (pt_val (pe_callB (isiK (K := K) rfl) (by rfl) T.n_isinstance PyProof.Rows.boot_isinstance (pa_cons (pv 4) (pa_cons (pe_glob (v := .ref T.a_WhileRow) rfl T.c_WhileRow rfl) pa_nil))))
          (pss_cons (ps_expr (pe_bm PySem.F.plainAttrs_list PySem.F.slot_list_extend PySem.F.type_list_extend mt_extend (pv 3) (pa_cons (pe_call ih (hr.mono (by omega)) rfl T.m_rows_written T.F_rows_written.kp T.B_rows_written .nil pass0 (pa_cons (fldK (K := K) rfl (pv 4) rfl) (pa_cons (pe_op op_add (pv 1) pe_int) pa_nil))) pa_nil)))
          (pss_one (ps_expr (pe_bm PySem.F.plainAttrs_list PySem.F.slot_list_append PySem.F.type_list_append mt_append (pv 3) (pa_cons (pe_op op_add_str (pv 2) pe_str) pa_nil)))))
          pss_nil)))))
      (pss_one (ps_ret (pv 3)))))), ?_⟩
    have hul := hus.len
    have il := ind_len n hn1 (by omega)
    have wl := word2_len
    walk_at "sy"
    refine w_ind hn1 (by omega) ?_
    walk_at "sy"
    rename_i f H1 n1
    have ff := n1.free
    refine k_forT us (fun i σ Hx => ∃ (v4 : Option V), σ = [some (.ref p), some (.int (n : Int)), some (.str (ind n)), some (.ref f), v4] ∧ Same H Hx ∧ Hx f = some (.lst ((linesEs n (es.take i)).map V.str))) ⟨none, rfl, n1.same, n1.at_⟩ (fun i σ Hx _ h => by
      obtain ⟨v4, _, sx, _⟩ := h
      exact SqT.of (sx _ _ hp)) ?_ ?_
    · rintro i x σ Hx hx ⟨v4, rfl, sx, hfx⟩
      obtain ⟨e, he, hel⟩ := hus.at hx
      have hg := hok e (List.mem_of_getElem? he)
      have hexx := hel.keep (Keep.of sx)
      have c1 := cnt_take he
      have c2 := cnt_le es (i + 1)
      have l1 := lines_cnts n (es.take i)
      have hh := headE_le hg.2.2.2.1
      have hll : ((linesEs n (es.take i)).map V.str).length ≤ 300 := by rw [strs_len]; omega
      walk_at "sy"
      refine head_el (d := d) rfl hexx hg.2.2.2.1 (fun H2 s2 => ?_)
      have hf2 := s2 _ _ hfx
      refine w_addS (by have := sizeLine_eq; omega) ?_
      walk_at "sy"
      rename_i H3 c3
      have s3 : Same H H3 := c3.sameOwn (sx.trans s2) ff
      cases e with
      | row r =>
        have hr3 : RowAt T H3 r x := hel.keep (Keep.of s3)
        refine isi_nif hr3 ?_
        walk_at "sy"
        refine isi_nwh hr3 ?_
        walk_at "sy"
        refine ⟨_, rfl, s3, ?_⟩
        rw [takeL_snoc n he, List.map_append]
        exact c3.at_
      | iff a rs os =>
        cases d with
        | zero => exact hg.1.elim
        | succ d =>
          have hel3 : ElAt T H3 (.iff a rs os) x := hel.keep (Keep.of s3)
          refine isi_IfRow_IfRow hel3 ?_
          have ccl := T.cl_IfRow
          have na1 := T.na_IfRow_rows
          have na2 := T.na_IfRow_others
          obtain ⟨k1, k2⟩ := okG_ifp hg
          have hel0 := hel
          have e1 : ((n : Int) + 1) = ((n + 1 : Nat) : Int) := rfl
          have hcc : cntE (.iff a rs os) = 1 + cntEs rs + cntEs os := rfl
          obtain ⟨px, dx, q1, q2, v0, us1, us2, rfl, hpx, h0, hq1, hus1, hq2, hus2⟩ := hel
          have hp3 := s3 _ _ hpx
          walk_at "sy"
          refine ⟨q1, us1, rs, n + 1, rfl, s3 _ _ hq1, hus1.keep (Keep.of s3), by omega, by omega, k1, by omega, fun H4 g4 s4 hg4 => ?_⟩
          have hf4 := s4 _ _ c3.at_
          have l4 := lines_cnts (n + 1) rs
          walk_at "sy"
          refine w_ext hf4 hg4 (by rw [List.length_append, strs_len (linesEs (n + 1) rs)]; have := sizeLine_eq; simp only [List.length_cons, List.length_nil]; omega) (fun H5 c5 => ?_)
          have s5 : Same H H5 := c5.sameOwn (s3.trans s4) ff
          have hp5 := s5 _ _ hpx
          have hq25 := s5 _ _ hq2
          have l5 : ((linesEs n (es.take i)).map V.str ++ [V.str (ind n ++ headE (.iff a rs os))] ++ (linesEs (n + 1) rs).map V.str).length ≤ 1000 := by rw [List.length_append, List.length_append, strs_len (linesEs (n + 1) rs)]; simp only [List.length_cons, List.length_nil]; omega
          walk_at "sy"
          rename_i t6 H6 n6
          have hul2 := hus2.len
          refine w_neNilT (n6.get hq25) n6.at_ ?_
          cases os with
          | nil =>
            obtain rfl : us2 = [] := hus2
            walk_at "sy"
            rename_i H7 c7
            have hp7 := c7.getK (n6.get hp5) rfl
            have s7 : Same H H7 := c7.sameOwn (s5.trans n6.same) ff
            refine isi_IfRow_WhileRow (hel0.keep (Keep.of s7)) ?_
            walk_at "sy"
            refine ⟨_, rfl, s7, ?_⟩
            rw [takeL_snoc n he]
            have e6 := c7.at_
            rw [show linesE n (.iff a rs []) = (ind n ++ headE (.iff a [] [])) :: (linesEs (n + 1) rs ++ ([] ++ [ind n ++ Str.ofString "fi"])) from rfl]
            simp only [List.map_append, List.map_cons, List.map_nil, List.append_assoc, List.cons_append, List.nil_append] at e6 ⊢
            exact e6
          | cons o os =>
            have l2 := lines_cnts (n + 1) (o :: os)
            have hus20 := hus2
            obtain ⟨vo, uo, rfl, ho, huo⟩ := hus2
            refine ⟨true, rfl, ?_⟩
            rw [if_pos rfl]
            have hf6 := n6.get c5.at_
            have hp6 := n6.get hp5
            walk_at "sy"
            rename_i H7 c7
            have s7 : Same H H7 := c7.sameOwn (s5.trans n6.same) ff
            refine ⟨q2, vo :: uo, o :: os, n + 1, rfl, s7 _ _ hq2, hus20.keep (Keep.of s7), by omega, by omega, k2, by omega, fun H8 g8 s8 hg8 => ?_⟩
            have hf8 := s8 _ _ c7.at_
            walk_at "sy"
            refine w_ext hf8 hg8 (by rw [List.length_append, strs_len (linesEs (n + 1) (o :: os))]; have := sizeLine_eq; simp only [List.length_cons, List.length_nil] at *; omega) (fun H9 c9 => ?_)
            have s9 : Same H H9 := c9.sameOwn (s7.trans s8) ff
            have l9 : ((((linesEs n (es.take i)).map V.str ++ [V.str (ind n ++ headE (.iff a rs (o :: os)))] ++ (linesEs (n + 1) rs).map V.str) ++ [V.str (ind n ++ Str.ofString "else")]) ++ (linesEs (n + 1) (o :: os)).map V.str).length ≤ 2000 := by
              rw [List.length_append, List.length_append, strs_len (linesEs (n + 1) (o :: os))]
              simp only [List.length_cons, List.length_nil] at *
              omega
            walk_at "sy"
            rename_i H10 c10
            have s10 : Same H H10 := c10.sameOwn s9 ff
            refine isi_IfRow_WhileRow (hel0.keep (Keep.of s10)) ?_
            walk_at "sy"
            refine ⟨_, rfl, s10, ?_⟩
            rw [takeL_snoc n he]
            have e6 := c10.at_
            rw [show linesE n (.iff a rs (o :: os)) = (ind n ++ headE (.iff a [] [])) :: (linesEs (n + 1) rs ++ (((ind n ++ Str.ofString "else") :: linesEs (n + 1) (o :: os)) ++ [ind n ++ Str.ofString "fi"])) from rfl]
            simp only [List.map_append, List.map_cons, List.map_nil, List.append_assoc, List.cons_append, List.nil_append] at e6 ⊢
            exact e6
      | whl a rs =>
        cases d with
        | zero => exact hg.1.elim
        | succ d =>
          have hel3 : ElAt T H3 (.whl a rs) x := hel.keep (Keep.of s3)
          refine isi_WhileRow_IfRow hel3 ?_
          walk_at "sy"
          refine isi_WhileRow_WhileRow hel3 ?_
          have ccl := T.cl_WhileRow
          have na1 := T.na_WhileRow_rows
          have k1 := okG_whp hg
          have e1 : ((n : Int) + 1) = ((n + 1 : Nat) : Int) := rfl
          have hcc : cntE (.whl a rs) = 1 + cntEs rs := rfl
          obtain ⟨px, dx, q1, v0, us1, rfl, hpx, h0, hq1, hus1⟩ := hel
          have hp3 := s3 _ _ hpx
          walk_at "sy"
          refine ⟨q1, us1, rs, n + 1, rfl, s3 _ _ hq1, hus1.keep (Keep.of s3), by omega, by omega, k1, by omega, fun H4 g4 s4 hg4 => ?_⟩
          have hf4 := s4 _ _ c3.at_
          have l4 := lines_cnts (n + 1) rs
          walk_at "sy"
          refine w_ext hf4 hg4 (by rw [List.length_append, strs_len (linesEs (n + 1) rs)]; have := sizeLine_eq; simp only [List.length_cons, List.length_nil]; omega) (fun H5 c5 => ?_)
          have s5 : Same H H5 := c5.sameOwn (s3.trans s4) ff
          have hp5 := s5 _ _ hpx
          have l5 : ((linesEs n (es.take i)).map V.str ++ [V.str (ind n ++ headE (.whl a rs))] ++ (linesEs (n + 1) rs).map V.str).length ≤ 1000 := by rw [List.length_append, List.length_append, strs_len (linesEs (n + 1) rs)]; simp only [List.length_cons, List.length_nil]; omega
          walk_at "sy"
          rename_i H6 c6
          refine ⟨_, rfl, c6.sameOwn s5 ff, ?_⟩
          rw [takeL_snoc n he]
          have e6 := c6.at_
          rw [show linesE n (.whl a rs) = (ind n ++ headE (.whl a [])) :: (linesEs (n + 1) rs ++ [ind n ++ Str.ofString "od"]) from rfl]
          simp only [List.map_append, List.map_cons, List.map_nil, List.append_assoc, List.cons_append, List.nil_append] at e6 ⊢
          exact e6
      | _ => cases d <;> exact hg.1.elim
    · rintro σ Hx ⟨v4, rfl, sx, hfx⟩
      rw [hul, List.take_length] at hfx
      walk_at "sy"
      exact q _ _ sx hfx
end
/-! ### records and heads of helpers written -/
section
variable {P : Program} {w : World} {K : PySem.W.Frag} {mg : Str → Option Value} {base : Heap}
def pairS : Dt → Str
  | .tup [.str x, .str y] => x ++ Str.ofString " " ++ y
  | _ => Str.ofString ""
def recS (n : Str) (fs : List Dt) : Str := joinB ([Str.ofString "record", n] ++ fs.map pairS)
def parT (x y z : Str) : Str := if x = Str.ofString "look" ∨ x = Str.ofString "hand" then x ++ Str.ofString " " ++ y ++ Str.ofString " " ++ z else y ++ Str.ofString " " ++ z
def tripS : Dt → Str
  | .tup [.str x, .str y, .str z] => parT x y z
  | _ => Str.ofString ""
def givesL : Option Str → List Str
  | none => []
  | some s => [Str.ofString "gives", s]
def helS (n : Str) (ps : List Dt) (g : Option Str) : Str := joinB ([Str.ofString "helper", n] ++ ps.map tripS ++ givesL g)
theorem fld_of {d : Dt} (h : fieldD d) : ∃ x y, d = .tup [.str x, .str y] ∧ x.length ≤ 20 ∧ y.length ≤ 20 := by
  obtain ⟨x, y, rfl, hx, hy⟩ := h
  refine ⟨x, y, rfl, hx.sh.1, ?_⟩
  rcases hy with rfl | hy
  · decide +kernel
  · exact hy.sh.1
theorem par_of {d : Dt} (h : parD d) : ∃ x y z, d = .tup [.str x, .str y, .str z] ∧ x.length ≤ 20 ∧ y.length ≤ 20 ∧ z.length ≤ 20 := by
  obtain ⟨x, y, z, rfl, h⟩ := h
  refine ⟨x, y, z, rfl, ?_⟩
  have w : (Str.ofString "num").length ≤ 20 ∧ ∀ s ∈ [Str.ofString "box", Str.ofString "look", Str.ofString "hand"], s.length ≤ 20 := by decide +kernel
  rcases h with ⟨rfl, hy, rfl⟩ | ⟨hx, hy, hz⟩
  · exact ⟨w.1, hy.sh.1, w.1⟩
  · exact ⟨w.2 x hx, hy.sh.1, hz.sh.1⟩
theorem empty_app (s : Str) : Str.empty ++ s = s := by
  show (⟨#[] ++ s.cps⟩ : Str) = s
  simp
def spRecS (T : Tx K mg) : Sp := fun vs H Q _ => ∃ (v : V) (n : Str) (fs : List Dt), vs = [v] ∧ ElAt T H (.rcd n fs) v ∧ goodR (.rcd n fs) ∧ ∀ H', Same H H' → Q (.str (recS n fs)) H'
theorem ok_record_written (T : Tx K mg) : FnOk P w K mg base CX0 2 T.f_record_written T.d_record_written ["record"] (spRecS T) := by
  refine T.F_record_written.ok sc_record_written (fun vs H Q E h => ?_) (fun cdv A outer s H vs Q E hr h => ?_)
  · obtain ⟨v, n, fs, rfl, _⟩ := h
    rfl
  · obtain ⟨v, n, fs, rfl, hv, hg, q⟩ := h
    refine ⟨_, (pss_one (ps_ret (pe_join pe_str (pe_op op_cat (pe_lst (pa_cons pe_str (pa_cons (fldK (K := K) rfl (pv 0) rfl) pa_nil))) (pe_lc (own := [("name", 1), ("kind", 2)]) (tt := tYes) rfl sc_record_written.nd (pi_tupK (K := K) rfl (fldK (K := K) rfl (pv 0) rfl)) (blkOk_by (own := [("name", 1), ("kind", 2)]) (N := ["record", "name", "kind"]) (sc := defScope s_record_written) (by decide +kernel)) (fun _ _ _ _ _ => pg_tupK (K := K) (n := 2) rfl rfl (pgs_cons (pg_name (i := 1) sc_record_written.nd rfl (Or.inl rfl)) (pgs_cons (pg_name (i := 2) sc_record_written.nd rfl (Or.inl rfl)) pgs_nil))) (fun _ _ _ _ _ => pts_nil) (fun _ _ _ _ _ => (pe_joined (PJ.cons (pe_fmt (pv 1)) (PJ.cons pe_str (PJ.cons (pe_fmt (pv 2)) PJ.nil)))))))))), ?_⟩
    have ccl := T.cl_Record
    have na0 := T.na_Record_name
    have na1 := T.na_Record_fields
    have bl := blank_len
    have wr : (Str.ofString "record").length ≤ 20 := by decide +kernel
    obtain ⟨p, dx, v1, rfl, hp, q1, us1, rfl, hq1, hus1⟩ := hv
    obtain ⟨gn, gl1, gl2, gf⟩ := hg
    have hul := hus1.len
    have gn1 := gn.sh.1
    walk_at "sy"
    rename_i t1 H1 n1
    refine k_lcT us1 (fun D i Hx => Same H1 Hx ∧ Hx D = some (.lst (((fs.take i).map pairS).map V.str))) (fun D Hx n => ⟨n.same, n.at_⟩) (fun D i Hx _ h => SqT.of (h.1 _ _ (n1.same _ _ hq1))) ?_ ?_
    · rintro D hD i x Hx hx ⟨sx, hDx⟩
      obtain ⟨d, hd, hdx⟩ := hus1.at hx
      obtain ⟨a, b, rfl, la, lb⟩ := fld_of (gf d (List.mem_of_getElem? hd))
      obtain ⟨px, _, rfl, hpx, hvs⟩ := hdx
      obtain ⟨_, _, rfl, ha, hvs⟩ := hvs
      obtain rfl : _ = V.str a := ha
      obtain ⟨_, _, rfl, hb, hvs⟩ := hvs
      obtain rfl : _ = V.str b := hb
      obtain rfl : _ = [] := hvs
      have hpx2 := sx _ _ (n1.same _ _ hpx)
      walk_at "sy"
      show tJs _ Str.empty _ _ _
      refine w_jsn3 (x := a) (y := b) (s := Str.ofString " ") (by exact rfl) (by exact rfl) (by omega) ?_
      have hi := (List.getElem?_eq_some_iff.mp hd).1
      refine w_acc hDx (by rw [List.length_map, List.length_map, List.length_take]; have := sizeLine_eq; omega) fun H3 c3 => ?_
      refine ⟨c3.sameOwn sx hD, ?_⟩
      rw [take_snoc hd, List.map_append, List.map_append]
      exact c3.at_
    · rintro D hD Hx ⟨sx, hDx⟩
      rw [hul, List.take_length] at hDx
      walk_at "sy"
      rename_i t2 H2 n2
      refine w_join (ys := [Str.ofString "record", n] ++ fs.map pairS) (.inl (SqL.of (by rw [List.map_append]; exact n2.at_))) (joinSz (fun y hy => ?_) (by simp; omega) (Nat.le_of_eq blank_len)) ?_
      · rcases List.mem_append.mp hy with hy | hy
        · simp only [List.mem_cons, List.not_mem_nil, or_false] at hy
          rcases hy with rfl | rfl <;> omega
        · obtain ⟨d, hd, rfl⟩ := List.mem_map.mp hy
          obtain ⟨a, b, rfl, la, lb⟩ := fld_of (gf d hd)
          show (a ++ Str.ofString " " ++ b).length ≤ 1000
          rw [app_len, app_len]
          omega
      walk_at "sy"
      exact q _ (n1.same.trans (sx.trans n2.same))
def spParT : Sp := fun vs H Q _ => ∃ x y z : Str, vs = [.str x, .str y, .str z] ∧ x.length ≤ 20 ∧ y.length ≤ 20 ∧ z.length ≤ 20 ∧ ∀ H', Same H H' → Q (.str (parT x y z)) H'
theorem ok_param_written (T : Tx K mg) : FnOk P w K mg base CX0 1 T.f_param_written T.d_param_written ["how", "name", "kind"] spParT := by
  refine T.F_param_written.ok sc_param_written (fun vs H Q E h => ?_) (fun cdv A outer s H vs Q E hr h => ?_)
  · obtain ⟨x, y, z, rfl, _⟩ := h
    rfl
  · obtain ⟨x, y, z, rfl, lx, ly, lz, q⟩ := h
    refine ⟨_, (pss_cons (ps_if (pt_cmpR (in_seqK (K := K) rfl) (pv 0) (pe_tup (pa_cons pe_str (pa_cons pe_str pa_nil))) (by rfl))
        (pss_one (ps_ret (pe_joined (PJ.cons (pe_fmt (pv 0)) (PJ.cons pe_str (PJ.cons (pe_fmt (pv 1)) (PJ.cons pe_str (PJ.cons (pe_fmt (pv 2)) PJ.nil))))))))
        pss_nil)
      (pss_one (ps_ret (pe_joined (PJ.cons (pe_fmt (pv 1)) (PJ.cons pe_str (PJ.cons (pe_fmt (pv 2)) PJ.nil))))))), ?_⟩
    have bl := blank_len
    have hin : inV (.str x) [.str (Str.ofString "look"), .str (Str.ofString "hand")] = decide (x = Str.ofString "look" ∨ x = Str.ofString "hand") := by
      have h := inV_str x [Str.ofString "look", Str.ofString "hand"]
      simpa using h
    walk_at "sy"
    rename_i p1 H1 n1
    rw [hin]
    by_cases e : x = Str.ofString "look" ∨ x = Str.ofString "hand"
    · rw [if_pos (decide_eq_true e)]
      refine w_ret ?_
      show tJs _ Str.empty _ _ _
      refine w_jsn5 (x := x) (y := y) (u := z) (s := Str.ofString " ") (t := Str.ofString " ") (by exact rfl) (by exact rfl) (by exact rfl) (by omega) ?_
      have h := q H1 n1.same
      rw [parT, if_pos e] at h
      exact h
    · rw [if_neg (by rw [decide_eq_false e]; exact Bool.false_ne_true)]
      walk_at "sy"
      show tJs _ Str.empty _ _ _
      refine w_jsn3 (x := y) (y := z) (s := Str.ofString " ") (by exact rfl) (by exact rfl) (by omega) ?_
      have h := q H1 n1.same
      rw [parT, if_neg e] at h
      exact h
def endS : Str := Str.ofString "end"
def helL (n : Str) (ps : List Dt) (g : Option Str) (rs : List El) : List Str := helS n ps g :: (linesEs 1 rs ++ [endS])
def spHelL (T : Tx K mg) : Sp := fun vs H Q _ => ∃ (v : V) (n : Str) (ps : List Dt) (g : Option Str) (rs : List El), vs = [v] ∧ ElAt T H (.hel n ps g rs) v ∧ okH (.hel n ps g rs) ∧ ∀ H' q, Same H H' → H' q = some (.lst ((helL n ps g rs).map V.str)) → Q (.ref q) H'
theorem helS_le {n : Str} {ps : List Dt} {g : Option Str} (h : headH n ps g) : ∀ y ∈ [Str.ofString "helper", n] ++ ps.map tripS ++ givesL g, y.length ≤ 70 := fun y hy => by
  have bl := blank_len
  have wl : (Str.ofString "helper").length ≤ 20 ∧ (Str.ofString "gives").length ≤ 20 ∧ (Str.ofString "num").length ≤ 20 := by decide +kernel
  have hn := h.1.sh.1
  rcases List.mem_append.mp hy with hy | hy
  · rcases List.mem_append.mp hy with hy | hy
    · simp only [List.mem_cons, List.not_mem_nil, or_false] at hy
      rcases hy with rfl | rfl <;> omega
    · obtain ⟨d, hd, rfl⟩ := List.mem_map.mp hy
      obtain ⟨x, y, z, rfl, lx, ly, lz⟩ := par_of (h.2.2.1 d hd)
      show (parT x y z).length ≤ 70
      unfold parT
      split <;> (simp only [app_len]; omega)
  · cases g with
    | none => cases hy
    | some s =>
      have hs : s.length ≤ 20 := by
        rcases h.2.2.2 s rfl with rfl | hs
        · exact wl.2.2
        · exact hs.sh.1
      simp only [givesL, List.mem_cons, List.not_mem_nil, or_false] at hy
      rcases hy with rfl | rfl <;> omega
theorem helS_n {n : Str} {ps : List Dt} {g : Option Str} (h : headH n ps g) : ([Str.ofString "helper", n] ++ ps.map tripS ++ givesL g).length ≤ 10 := by
  have hg : (givesL g).length ≤ 2 := by cases g <;> simp [givesL]
  have := h.2.1
  simp only [List.length_append, List.length_cons, List.length_nil, List.length_map]
  omega
theorem ok_rows_writtenN (T : Tx K mg) : FnOk P w K mg base CX0 3 T.f_rows_written T.d_rows_written ["rows", "deep"] (fun _ _ _ _ => False) := T.F_rows_written.ok sc_rows_written (fun vs H Q E h => h.elim) (fun cdv A outer s H vs Q E hr h => h.elim)
theorem ok_rows_written (T : Tx K mg) : ∀ d : Nat, FnOk P w K mg base CX0 (d + 4) T.f_rows_written T.d_rows_written ["rows", "deep"] (spWritten T d)
  | 0 => ok_rows_writtenI (j := 0) (d := 0) T (ok_rows_writtenN T)
  | d + 1 => ok_rows_writtenI (j := d + 1) (d := d + 1) T (ok_rows_written T d)
theorem ok_helper_written (T : Tx K mg) : FnOk P w K mg base CX0 8 T.f_helper_written T.d_helper_written ["helper"] (spHelL T) := by
  refine T.F_helper_written.ok sc_helper_written (fun vs H Q E h => ?_) (fun cdv A outer s H vs Q E hr h => ?_)
  · obtain ⟨v, n, ps, g, rs, rfl, _⟩ := h
    rfl
  · obtain ⟨v, n, ps, g, rs, rfl, hv, hok, q⟩ := h
    refine ⟨_, (pss_cons (ps_set (i := 1) sc_helper_written.nd rfl (Or.inl rfl) (pe_op op_cat (pe_lst (pa_cons pe_str (pa_cons (fldK (K := K) rfl (pv 0) rfl) pa_nil))) (pe_lc (own := [("how", 2), ("name", 3), ("kind", 4)]) (tt := tYes) rfl sc_helper_written.nd (pi_tupK (K := K) rfl (fldK (K := K) rfl (pv 0) rfl)) (blkOk_by (own := [("how", 2), ("name", 3), ("kind", 4)]) (N := ["helper", "words", "how", "name", "kind"]) (sc := defScope s_helper_written) (by decide +kernel)) (fun _ _ _ _ _ => pg_tupK (K := K) (n := 3) rfl rfl (pgs_cons (pg_name (i := 2) sc_helper_written.nd rfl (Or.inl rfl)) (pgs_cons (pg_name (i := 3) sc_helper_written.nd rfl (Or.inl rfl)) (pgs_cons (pg_name (i := 4) sc_helper_written.nd rfl (Or.inl rfl)) pgs_nil)))) (fun _ _ _ _ _ => pts_nil) (fun _ _ _ _ _ => (pe_call (ok_param_written T) (hr.mono (by omega)) rfl T.m_param_written T.F_param_written.kp T.B_param_written .nil pass0 (pa_cons (pv 2) (pa_cons (pv 3) (pa_cons (pv 4) pa_nil))))))))
      (pss_cons (ps_if (pt_cmp (pc_notN (fldK (K := K) rfl (pv 0) rfl)))
        (pss_one (ps_set (i := 1) sc_helper_written.nd rfl (Or.inl rfl) (pe_op op_cat (pv 1) (pe_lst (pa_cons pe_str (pa_cons (fldK (K := K) rfl (pv 0) rfl) pa_nil))))))
        pss_nil)
      (pss_one (ps_ret (pe_op op_cat (pe_op op_cat (pe_lst (pa_cons (pe_join pe_str (pv 1)) pa_nil)) (pe_call (ok_rows_written T 3) (hr.mono (by omega)) rfl T.m_rows_written T.F_rows_written.kp T.B_rows_written .nil pass0 (pa_cons (fldK (K := K) rfl (pv 0) rfl) (pa_cons pe_int pa_nil)))) (pe_lst (pa_cons pe_str pa_nil))))))), ?_⟩
    have ccl := T.cl_Helper
    have na0 := T.na_Helper_name
    have na1 := T.na_Helper_params
    have na2 := T.na_Helper_gives
    have na3 := T.na_Helper_rows
    have bl := blank_len
    obtain ⟨hrl, hrg, _, _, hh, _, hct⟩ := hok
    obtain ⟨p, dx, q1, v1, v2, us1, rfl, hp, ⟨q3, us3, rfl, hq3, hus3⟩, hg, hq1, hus1⟩ := hv
    have hul := hus3.len
    have hyl := helS_le hh
    have hyn := helS_n hh
    walk_at "sy"
    rename_i t1 H1 n1
    refine k_lcT us3 (fun D i Hx => Same H1 Hx ∧ Hx D = some (.lst (((ps.take i).map tripS).map V.str))) (fun D Hx n => ⟨n.same, n.at_⟩) (fun D i Hx _ h => SqT.of (h.1 _ _ (n1.same _ _ hq3))) ?_ ?_
    · rintro D hD i x Hx hx ⟨sx, hDx⟩
      obtain ⟨d, hd, hdx⟩ := hus3.at hx
      have hi := (List.getElem?_eq_some_iff.mp hd).1
      have hps := hh.2.1
      obtain ⟨a, b, c, rfl, la, lb, lc⟩ := par_of (hh.2.2.1 d (List.mem_of_getElem? hd))
      obtain ⟨px, _, rfl, hpx, hvs⟩ := hdx
      obtain ⟨_, _, rfl, ha, hvs⟩ := hvs
      obtain rfl : _ = V.str a := ha
      obtain ⟨_, _, rfl, hb, hvs⟩ := hvs
      obtain rfl : _ = V.str b := hb
      obtain ⟨_, _, rfl, hc, hvs⟩ := hvs
      obtain rfl : _ = V.str c := hc
      obtain rfl : _ = [] := hvs
      have hpx2 := sx _ _ (n1.same _ _ hpx)
      walk_at "sy"
      refine ⟨a, b, c, rfl, la, lb, lc, fun H3 s3 => ?_⟩
      have hD3 := s3 _ _ hDx
      refine w_acc hD3 (by rw [List.length_map, List.length_map, List.length_take]; have := sizeLine_eq; omega) fun H4 c4 => ?_
      refine ⟨c4.sameOwn (sx.trans s3) hD, ?_⟩
      rw [take_snoc hd, List.map_append, List.map_append]
      exact c4.at_
    · rintro D hD Hx ⟨sx, hDx⟩
      rw [hul, List.take_length] at hDx
      have hps := hh.2.1
      have hpx := sx _ _ (n1.same _ _ hp)
      have hq1x := sx _ _ (n1.same _ _ hq1)
      have hus1x := hus1.keep (Keep.of (n1.same.trans sx))
      have k3 : ∀ e ∈ rs, okG 3 e := hrg
      have l1 := lines_cnts 1 rs
      walk_at "sy"
      rename_i t2 H2 n2
      have hpx2 := n2.get hpx
      cases g with
      | none =>
        obtain rfl : v2 = .non := hg
        walk_at "sy"
        refine w_join (ys := [Str.ofString "helper", n] ++ ps.map tripS) (.inl (SqL.of (by rw [List.map_append]; exact n2.at_))) (joinSz (fun y hy => Nat.le_trans (hyl y (List.mem_append_left _ hy)) (by decide)) (by rw [List.length_append] at hyn; omega) (Nat.le_of_eq blank_len)) ?_
        walk_at "sy"
        rename_i t3 H3 n3
        refine ⟨q1, us1, rs, 1, rfl, n3.get (n2.get hq1x), (hus1x.keep n2.keep).keep n3.keep, by omega, by omega, k3, by omega, fun H4 g4 s4 hg4 => ?_⟩
        have h34 := s4 _ _ n3.at_
        walk_at "sy"
        rename_i t5 H5 n5 t6 H6 n6 t7 H7 n7
        refine q H7 t7 (n1.same.trans (sx.trans (n2.same.trans (n3.same.trans (s4.trans (n5.same.trans (n6.same.trans n7.same))))))) ?_
        rw [n7.at_, helL, helS, givesL, List.append_nil]
        simp only [List.map_append, List.map_cons, List.map_nil, List.append_assoc, List.cons_append, List.nil_append]
        rfl
      | some s =>
        obtain rfl : v2 = .str s := hg
        walk_at "sy"
        rename_i ta Ha na tb Hb nb
        have hq1b := nb.get (na.get (n2.get hq1x))
        have husb := ((hus1x.keep n2.keep).keep na.keep).keep nb.keep
        refine w_join (ys := [Str.ofString "helper", n] ++ ps.map tripS ++ givesL (some s)) (.inl (SqL.of (by rw [List.map_append, List.map_append]; exact nb.at_))) (joinSz (fun y hy => Nat.le_trans (hyl y hy) (by decide)) (by omega) (Nat.le_of_eq blank_len)) ?_
        walk_at "sy"
        rename_i t3 H3 n3
        refine ⟨q1, us1, rs, 1, rfl, n3.get hq1b, husb.keep n3.keep, by omega, by omega, k3, by omega, fun H4 g4 s4 hg4 => ?_⟩
        have h34 := s4 _ _ n3.at_
        walk_at "sy"
        rename_i t5 H5 n5 t6 H6 n6 t7 H7 n7
        refine q H7 t7 (n1.same.trans (sx.trans (n2.same.trans (na.same.trans (nb.same.trans (n3.same.trans (s4.trans (n5.same.trans (n6.same.trans n7.same))))))))) ?_
        rw [n7.at_, helL, helS]
        simp only [List.map_append, List.map_cons, List.map_nil, List.append_assoc, List.cons_append, List.nil_append]
        rfl
end
/-! ### programs written -/
section
variable {P : Program} {w : World} {K : PySem.W.Frag} {mg : Str → Option Value} {base : Heap}
def recE : El → Str
  | .rcd n fs => recS n fs
  | _ => Str.ofString ""
def helE : El → List Str
  | .hel n ps g rs => helL n ps g rs
  | _ => []
def helsL : List El → List Str
  | [] => []
  | e :: es => helE e ++ helsL es
theorem helsL_snoc (e : El) : ∀ es : List El, helsL (es ++ [e]) = helsL es ++ helE e
  | [] => by show helE e ++ [] = [] ++ helE e; simp
  | x :: es => by
    show helE x ++ helsL (es ++ [e]) = helE x ++ helsL es ++ helE e
    rw [helsL_snoc e es, List.append_assoc]
def progL (rs hs : List El) : List Str := rs.map recE ++ helsL hs
def nlS : Str := Str.ofString "\n"
def textP (rs hs : List El) : Str := Txt.join (Str.ofString "") ((progL rs hs).map (· ++ nlS))
theorem nl_len : nlS.length = 1 ∧ (Str.ofString "").length = 0 ∧ endS.length = 3 := by decide +kernel
theorem rec_le {e : El} (h : goodR e) : (recE e).length ≤ 5000 := by
  cases e with
  | rcd n fs =>
    have wl : (Str.ofString "record").length ≤ 20 := by decide +kernel
    have bl := blank_len
    have hn := h.1.sh.1
    have hy : ∀ y ∈ [Str.ofString "record", n] ++ fs.map pairS, y.length ≤ 41 := fun y hy => by
      rcases List.mem_append.mp hy with hy | hy
      · simp only [List.mem_cons, List.not_mem_nil, or_false] at hy
        rcases hy with rfl | rfl <;> omega
      · obtain ⟨d, hd, rfl⟩ := List.mem_map.mp hy
        obtain ⟨a, b, rfl, la, lb⟩ := fld_of (h.2.2.2 d hd)
        show (a ++ Str.ofString " " ++ b).length ≤ 41
        rw [app_len, app_len]
        omega
    have := join_le (s := Str.ofString " ") (Nat.le_of_eq blank_len) hy
    have hl : ([Str.ofString "record", n] ++ fs.map pairS).length ≤ 6 := by simp only [List.length_append, List.length_cons, List.length_nil, List.length_map]; have := h.2.2.1; omega
    have h2 : (41 + 1) * ([Str.ofString "record", n] ++ fs.map pairS).length ≤ 42 * 6 := Nat.mul_le_mul (Nat.le_refl _) hl
    show (Txt.join (Str.ofString " ") ([Str.ofString "record", n] ++ fs.map pairS)).length ≤ 5000
    omega
  | _ => exact h.elim
theorem hel_le {e : El} (h : okH e) : (helE e).length ≤ 62 ∧ ∀ l ∈ helE e, l.length ≤ 5000 := by
  cases e with
  | hel n ps g rs =>
    obtain ⟨hrl, hrg, _, _, hh, _, hct⟩ := h
    have l1 := lines_cnts 1 rs
    refine ⟨by show (_ :: (linesEs 1 rs ++ [endS])).length ≤ 62; simp only [List.length_append, List.length_cons, List.length_nil]; omega, fun l hl => ?_⟩
    have hl : l ∈ helS n ps g :: (linesEs 1 rs ++ [endS]) := hl
    rcases List.mem_cons.mp hl with rfl | hl
    · have := join_le (s := Str.ofString " ") (Nat.le_of_eq blank_len) (helS_le hh)
      have h2 : (70 + 1) * ([Str.ofString "helper", n] ++ ps.map tripS ++ givesL g).length ≤ 71 * 10 := Nat.mul_le_mul (Nat.le_refl _) (helS_n hh)
      show (Txt.join (Str.ofString " ") ([Str.ofString "helper", n] ++ ps.map tripS ++ givesL g)).length ≤ 5000
      omega
    · rcases List.mem_append.mp hl with hl | hl
      · exact lines_lens 3 1 rs (by omega) (by omega) (fun e m => (hrg e m).2.2.2.1) l hl
      · rw [List.mem_singleton.mp hl]
        have := nl_len.2.2
        omega
  | _ => exact h.elim
theorem hels_le : ∀ {hs : List El}, (∀ e ∈ hs, okH e) → (helsL hs).length ≤ 62 * hs.length ∧ ∀ l ∈ helsL hs, l.length ≤ 5000
  | [], _ => ⟨Nat.le_refl _, fun l hl => by cases hl⟩
  | e :: hs, h => by
    have h1 := hel_le (h e (List.mem_cons_self ..))
    have h2 := hels_le fun x hx => h x (List.mem_cons_of_mem _ hx)
    refine ⟨?_, fun l hl => ?_⟩
    · show (helE e ++ helsL hs).length ≤ 62 * (hs.length + 1)
      rw [List.length_append]
      omega
    · rcases List.mem_append.mp (show l ∈ helE e ++ helsL hs from hl) with hl | hl
      · exact h1.2 l hl
      · exact h2.2 l hl
theorem prog_le {rs hs : List El} (h1 : rs.length ≤ 3) (h2 : hs.length ≤ 3) (k1 : ∀ e ∈ rs, okR e) (k2 : ∀ e ∈ hs, okH e) : (progL rs hs).length ≤ 200 ∧ ∀ l ∈ progL rs hs, l.length ≤ 5000 := by
  have h := hels_le k2
  refine ⟨by rw [progL, List.length_append, List.length_map]; omega, fun l hl => ?_⟩
  rcases List.mem_append.mp hl with hl | hl
  · obtain ⟨e, he, rfl⟩ := List.mem_map.mp hl
    exact rec_le (k1 e he).2.2.2
  · exact h.2 l hl
theorem joinSz2 {ys : List Str} {s : Str} (h : ∀ y ∈ ys, y.length ≤ 5001) (hl : ys.length ≤ 1000) (hs : s.length ≤ 1) : (ys.map (·.length)).sum + ys.length * s.length ≤ 16777216 := by
  have h1 := sum_le 5001 (ys.map (·.length)) fun x hx => by
    obtain ⟨y, hy, rfl⟩ := List.mem_map.mp hx
    exact h y hy
  rw [List.length_map] at h1
  have h2 : ys.length * s.length ≤ 1000 * 1 := Nat.mul_le_mul hl hs
  omega
def spTextP (T : Tx K mg) : Sp := fun vs H Q _ => ∃ (x : Addr) (rs hs : List El), vs = [.ref x] ∧ ProgAtE T H x rs hs ∧ rs.length ≤ 3 ∧ hs.length ≤ 3 ∧ (∀ e ∈ rs, okR e) ∧ (∀ e ∈ hs, okH e) ∧ ∀ H', Same H H' → Q (.str (textP rs hs)) H'
theorem ok_written (T : Tx K mg) : FnOk P w K mg base CX0 9 T.f_written T.d_written ["program"] (spTextP T) := by
  refine T.F_written.ok sc_written (fun vs H Q E h => ?_) (fun cdv A outer s H vs Q E hr h => ?_)
  · obtain ⟨x, rs, hs, rfl, _⟩ := h
    rfl
  · obtain ⟨x, rs, hs, rfl, ⟨dx, q1, q2, us1, us2, hp, hq1, hu1, hq2, hu2⟩, l1, l2, k1, k2, q⟩ := h
    refine ⟨_, (pss_cons (ps_setLc (i := 1) (own := [("record", 3)]) (g := gName 3) (tt := tYes) rfl sc_written.nd rfl rfl (sw_true rfl rfl rfl (by decide +kernel)) (pi_tupK (K := K) rfl (fldK (K := K) rfl (pv 0) rfl)) (blkOk_by (own := [("record", 3)]) (N := ["program", "found", "helper", "record", "row"]) (sc := defScope s_written) (by decide +kernel)) (fun _ _ _ _ _ => pg_name (i := 3) sc_written.nd rfl (Or.inl rfl)) (fun _ _ _ _ _ => pts_nil) (fun _ _ _ _ _ => (pe_call (ok_record_written T) (hr.mono (by omega)) rfl T.m_record_written T.F_record_written.kp T.B_record_written .nil pass0 (pa_cons (pv 3) pa_nil))))
      (pss_cons (ps_for PassesOwn.never rfl (pi_tupK (K := K) rfl (fldK (K := K) rfl (pv 0) rfl)) (pg_name (i := 2) sc_written.nd rfl (Or.inl rfl))
        (pss_one (ps_expr (pe_bm PySem.F.plainAttrs_list PySem.F.slot_list_extend PySem.F.type_list_extend mt_extend (pv 1) (pa_cons (pe_call (ok_helper_written T) (hr.mono (by omega)) rfl T.m_helper_written T.F_helper_written.kp T.B_helper_written .nil pass0 (pa_cons (pv 2) pa_nil)) pa_nil)))))
      (pss_one (ps_ret (pe_join pe_str (pe_lc (own := [("row", 4)]) (g := gName 4) (tt := tYes) rfl sc_written.nd (pi_listK (K := K) rfl (pv 1)) (blkOk_by (own := [("row", 4)]) (N := ["program", "found", "helper", "record", "row"]) (sc := defScope s_written) (by decide +kernel)) (fun _ _ _ _ _ => pg_name (i := 4) sc_written.nd rfl (Or.inl rfl)) (fun _ _ _ _ _ => pts_nil) (fun _ _ _ _ _ => (pe_op op_add_str (pv 4) pe_str)))))))), ?_⟩
    have ccl := T.cl_Program
    have na0 := T.na_Program_records
    have na1 := T.na_Program_helpers
    have hul1 := hu1.len
    have hul2 := hu2.len
    have pl := prog_le l1 l2 k1 k2
    have nl := nl_len
    walk_at "sy"
    refine k_lcT us1 (fun D i Hx => Same H Hx ∧ Hx D = some (.lst (((rs.take i).map recE).map V.str))) (fun D Hx n => ⟨n.same, n.at_⟩) (fun D i Hx _ h => SqT.of (h.1 _ _ hq1)) ?_ ?_
    · rintro D hD i y Hx hx ⟨sx, hDx⟩
      obtain ⟨e, he, hel⟩ := hu1.at hx
      have hi := (List.getElem?_eq_some_iff.mp hx).1
      have hR := k1 e (List.mem_of_getElem? he)
      cases e with
      | rcd n fs =>
        walk_at "sy"
        refine ⟨y, n, fs, rfl, hel.keep (Keep.of sx), hR.2.2.2, fun H3 s3 => ?_⟩
        have hD3 := s3 _ _ hDx
        refine w_acc hD3 (by rw [List.length_map, List.length_map, List.length_take]; have := sizeLine_eq; omega) fun H4 c4 => ?_
        refine ⟨c4.sameOwn (sx.trans s3) hD, ?_⟩
        rw [take_snoc he, List.map_append, List.map_append]
        exact c4.at_
      | _ => exact hR.2.2.2.elim
    · rintro D hD Hx ⟨sx, hDx⟩
      rw [hul1, List.take_length] at hDx
      have hpx := sx _ _ hp
      have hq2x := sx _ _ hq2
      walk_at "sy"
      refine k_forT us2 (fun i σ Hy => ∃ (v2 v3 v4 : Option V), σ = [some (.ref x), some (.ref D), v2, v3, v4] ∧ Same H Hy ∧ Hy D = some (.lst ((rs.map recE ++ helsL (hs.take i)).map V.str))) ⟨_, _, _, rfl, sx, by rw [show helsL (hs.take 0) = [] from rfl, List.append_nil]; exact hDx⟩ (fun i σ Hy _ h => by
        obtain ⟨_, _, _, _, sy, _⟩ := h
        exact SqT.of (sy _ _ hq2)) ?_ ?_
      · rintro i y σ Hy hy ⟨v2, v3, v4, rfl, sy, hDy⟩
        obtain ⟨e, he, hel⟩ := hu2.at hy
        have hH := k2 e (List.mem_of_getElem? he)
        have hle := hel_le hH
        have hls := (hels_le (hs := hs.take i) fun e m => k2 e (List.mem_of_mem_take m)).1
        have htl : (hs.take i).length ≤ 3 := by rw [List.length_take]; omega
        cases e with
        | hel n ps g es =>
          walk_at "sy"
          refine ⟨y, n, ps, g, es, rfl, hel.keep (Keep.of sy), hH, fun H3 q3 s3 hq3 => ?_⟩
          have hD3 := s3 _ _ hDy
          have hle1 : (helL n ps g es).length ≤ 62 := hle.1
          walk_at "sy"
          refine w_ext hD3 hq3 (by simp only [List.length_append, List.length_map]; have := sizeLine_eq; omega) (fun H5 c5 => ?_)
          walk_at "sy"
          refine ⟨_, _, _, rfl, c5.sameOwn (sy.trans s3) hD, ?_⟩
          rw [take_snoc he, helsL_snoc, ← List.append_assoc, List.map_append]
          exact c5.at_
        | _ => exact hH.elim
      · rintro σ Hy ⟨v2, v3, v4, rfl, sy, hDy⟩
        rw [hul2, List.take_length] at hDy
        have hDy : Hy D = some (.lst ((progL rs hs).map V.str)) := hDy
        generalize hL : progL rs hs = L at hDy pl
        walk_at "sy"
        refine k_lcL (L.map V.str) (fun E i Hz => Same Hy Hz ∧ Hz E = some (.lst (((L.take i).map (· ++ nlS)).map V.str))) (fun E Hz n => ⟨n.same, n.at_⟩) (fun E i Hz _ h => SqL.of (h.1 _ _ hDy)) ?_ ?_
        · rintro E hE i y Hz hy ⟨sz, hEz⟩
          rw [List.getElem?_map] at hy
          obtain ⟨l, hl, rfl⟩ := Option.map_eq_some_iff.mp hy
          have hll := pl.2 l (List.mem_of_getElem? hl)
          have hi := (List.getElem?_eq_some_iff.mp hl).1
          walk_at "sy"
          refine w_addS (x := l) (y := nlS) (by have := sizeLine_eq; omega) ?_
          refine w_acc hEz (by rw [List.length_map, List.length_map, List.length_take]; have := sizeLine_eq; omega) fun H4 c4 => ?_
          refine ⟨c4.sameOwn sz hE, ?_⟩
          rw [take_snoc hl, List.map_append, List.map_append]
          exact c4.at_
        · rintro E hE Hz ⟨sz, hEz⟩
          rw [List.length_map, List.take_length] at hEz
          walk_at "sy"
          refine w_join (ys := L.map (· ++ nlS)) (.inl (SqL.of hEz)) (joinSz2 (fun y hy => ?_) (by rw [List.length_map]; omega) (by omega)) ?_
          · obtain ⟨l, hl, rfl⟩ := List.mem_map.mp hy
            show (l ++ nlS).length ≤ 5001
            rw [app_len]
            have := pl.2 l hl
            omega
          walk_at "sy"
          subst hL
          exact q _ (sy.trans sz)
end
/-! ### the law's rows of text -/
section
variable {P : Program} {w : World} {K : PySem.W.Frag} {mg : Str → Option Value} {base : Heap}
theorem row_word2 (r : Rw) : ∃ (w : Str) (ds : List Dt), partsD r = .str w :: ds ∧ w ≠ Str.ofString "if" ∧ inV (.str w) [.str (Str.ofString "if"), .str (Str.ofString "while")] = false := by
  have h : ∀ w : Str, w ≠ Str.ofString "if" ∧ w ≠ Str.ofString "while" → w ≠ Str.ofString "if" ∧ inV (.str w) [.str (Str.ofString "if"), .str (Str.ofString "while")] = false := fun w h => by
    refine ⟨h.1, ?_⟩
    have e : ∀ z : Str, w ≠ z → eqV (V.str z) (V.str w) = false := fun z h => decide_eq_false (fun e => h e.symm)
    unfold inV
    simp [e _ h.1, e _ h.2]
  cases r with
  | lend b x0 x1 => cases b <;> exact ⟨_, _, rfl, h _ (by decide +kernel)⟩
  | _ => exact ⟨_, _, rfl, h _ (by decide +kernel)⟩
theorem if_in : inV (.str (Str.ofString "if")) [.str (Str.ofString "if"), .str (Str.ofString "while")] = true ∧ inV (.str (Str.ofString "while")) [.str (Str.ofString "if"), .str (Str.ofString "while")] = true := by decide +kernel
def spLLines (K : PySem.W.Frag) (d : Nat) : Sp := fun vs H Q _ => ∃ (p : Addr) (us : List V) (es : List El) (n : Nat), vs = [.ref p, .int (n : Int)] ∧ H p = some (.tup us) ∧ IsDs H (elDs es) us ∧ 1 ≤ n ∧ n + d ≤ 10 ∧ d ≤ 3 ∧ (∀ e ∈ es, okS d e) ∧ cntEs es ≤ 100 ∧
  ∀ (H' : Hp) (q : Addr), Same H H' → H' q = some (.lst ((linesEs n es).map V.str)) → Q (.ref q) H'
def spLLinesP (K : PySem.W.Frag) : Nat → Sp
  | 0 => fun _ _ _ _ => False
  | d + 1 => spLLines K d
theorem ok_l_linesI {j d : Nat} (T : Tx K mg) (ih : FnOk P w K mg base CX0 (j + 3) T.f_l_lines T.d_l_lines ["_law_rows_here", "_law_deep"] (spLLinesP K d)) : FnOk P w K mg base CX0 (j + 4) T.f_l_lines T.d_l_lines ["_law_rows_here", "_law_deep"] (spLLines K d) := by
  refine T.F_l_lines.ok sc_l_lines (fun vs H Q E h => ?_) (fun cdv A outer s H vs Q E hr h => ?_)
  · obtain ⟨p, us, es, n, rfl, _⟩ := h
    rfl
  · obtain ⟨p, us, es, n, rfl, hp, hus, hn1, hnd, hd3, hok, hct, q⟩ := h
    refine ⟨_, (pss_cons (ps_set (i := 2) sc_l_lines.nd rfl (Or.inl rfl) (pe_lst pa_nil))
      (pss_cons (ps_for PassesOwn.never rfl (pi_tupK (K := K) rfl (pv 0)) (pg_name (i := 3) sc_l_lines.nd rfl (Or.inl rfl))
        (pss_cons (ps_expr (pe_bm PySem.F.plainAttrs_list PySem.F.slot_list_append PySem.F.type_list_append mt_append (pv 2) (pa_cons (pe_op op_add_str (pe_op op_mulS2 pe_str (pv 1)) (pe_call (ok_l_headE T) (hr.mono (by omega)) rfl T.m_l_head T.F_l_head.kp T.B_l_head .nil pass0 (pa_cons (pv 3) pa_nil))) pa_nil)))
        (pss_cons (ps_if (pt_cmpR (in_seqK (K := K) rfl) (pe_ix (ix_tupK (K := K) rfl) (pv 3) pe_int (fun _ _ => rfl)) (pe_tup (pa_cons pe_str (pa_cons pe_str pa_nil))) (by rfl))
          (pss_one (ps_set (i := 2) sc_l_lines.nd rfl (Or.inl rfl) (pe_op op_cat (pv 2) (pe_call ih (hr.mono (by omega)) rfl T.m_l_lines T.F_l_lines.kp T.B_l_lines .nil pass0 (pa_cons (pe_ix (ix_tupK (K := K) rfl) (pv 3) pe_int (fun _ _ => rfl)) (pa_cons (pe_op op_add (pv 1) pe_int) pa_nil))))))
          pss_nil)
        (pss_cons (ps_if (PW.pt (pw_and (pt_cmpR op_eq (pe_ix (ix_tupK (K := K) rfl) (pv 3) pe_int (fun _ _ => rfl)) pe_str (nomark _)) (pw_and1 (pt_cmpR (op_neNilT hr.units) (pe_ix (ix_tupK (K := K) rfl) (pv 3) pe_int (fun _ _ => rfl)) (pe_tup pa_nil) (nomark _)))))
          (pss_one (ps_set (i := 2) sc_l_lines.nd rfl (Or.inl rfl) (pe_op op_cat (pe_op op_cat (pv 2) (pe_lst (pa_cons (pe_op op_add_str (pe_op op_mulS2 pe_str (pv 1)) pe_str) pa_nil))) (pe_call ih (hr.mono (by omega)) rfl T.m_l_lines T.F_l_lines.kp T.B_l_lines .nil pass0 (pa_cons (pe_ix (ix_tupK (K := K) rfl) (pv 3) pe_int (fun _ _ => rfl)) (pa_cons (pe_op op_add (pv 1) pe_int) pa_nil))))))
          pss_nil)
        (pss_one (ps_if (pt_cmpR (in_seqK (K := K) rfl) (pe_ix (ix_tupK (K := K) rfl) (pv 3) pe_int (fun _ _ => rfl)) (pe_tup (pa_cons pe_str (pa_cons pe_str pa_nil))) (by rfl))
          (pss_one (ps_expr (pe_bm PySem.F.plainAttrs_list PySem.F.slot_list_append PySem.F.type_list_append mt_append (pv 2) (pa_cons (pe_op op_add_str (pe_op op_mulS2 pe_str (pv 1)) (pe_ix (ix_listK (K := K) rfl) (pe_lst (pa_cons pe_str (pa_cons pe_str pa_nil))) (pe_callTy call_int1 (by rfl) T.n_int PyProof.Rows.boot_int (pa_cons (pe_cmpR op_eq (pe_ix (ix_tupK (K := K) rfl) (pv 3) pe_int (fun _ _ => rfl)) pe_str (nomark _)) pa_nil)) (fun _ _ => rfl))) pa_nil))))
          pss_nil))))))
      (pss_one (ps_ret (pv 2))))), ?_⟩
    have hul : us.length = es.length := by rw [hus.len, elDs_len]
    have il := ind_len n hn1 (by omega)
    have wl := word2_len
    walk_at "sy"
    rename_i f0 H1 n1
    refine k_forT us (fun i σ Hx => ∃ (f : Addr) (v3 : Option V), σ = [some (.ref p), some (.int (n : Int)), some (.ref f), v3] ∧ H f = none ∧ Same H Hx ∧ Hx f = some (.lst ((linesEs n (es.take i)).map V.str))) ⟨f0, none, rfl, n1.free, n1.same, n1.at_⟩ (fun i σ Hx _ h => by
      obtain ⟨_, _, _, _, sx, _⟩ := h
      exact SqT.of (sx _ _ hp)) ?_ ?_
    · rintro i x σ Hx hx ⟨f, v3, rfl, ff, sx, hfx⟩
      obtain ⟨d', hd1, hd2⟩ := hus.at hx
      obtain ⟨e, he, rfl⟩ := elD_at hd1
      have hg := hok e (List.mem_of_getElem? he)
      have hexx := hd2.keep (Keep.of sx)
      have c1 := cnt_take he
      have c2 := cnt_le es (i + 1)
      have l1 := lines_cnts n (es.take i)
      have hh := headE_le hg.1.2.2.2.1
      have hll : ((linesEs n (es.take i)).map V.str).length ≤ 300 := by rw [strs_len]; omega
      walk_at "sy"
      refine w_ind hn1 (by omega) ?_
      walk_at "sy"
      cases e with
      | row r =>
        have hg0 : GoodN r := by have := hg.1.2.2.2.1; cases d <;> exact this
        refine .inl ⟨x, r, rfl, hexx, rfl, hg0.goodL.good, fun H2 s2 => ?_⟩
        have hh : (headS r).length ≤ 4300 := hh
        have hf2 := s2 _ _ hfx
        walk_at "sy"
        rename_i H3 c3
        have s3 : Same H H3 := c3.sameOwn (sx.trans s2) ff
        obtain ⟨w0, ds0, ew, hne, hin⟩ := row_word2 r
        have hu3 := hd2.keep (Keep.of s3)
        rw [show elD (.row r) = toldD r from rfl, toldP, ew] at hu3
        obtain ⟨pu, _, rfl, hpu, ⟨_, vr, rfl, hw, _⟩⟩ := hu3
        obtain rfl : _ = V.str w0 := hw
        have hat : atI (V.str w0 :: vr) 0 = some _ := atI_nat (j := 0) rfl
        walk_at "sy"
        rename_i t4 H4 n4 t5 H5 n5
        refine ⟨f, _, rfl, ff, s3.trans (n4.same.trans n5.same), ?_⟩
        rw [takeL_snoc n he, List.map_append]
        exact n5.get (n4.get c3.at_)
      | iff a rs os =>
        cases d with
        | zero => exact hg.1.1.elim
        | succ d =>
          have ha : atOk a := hg.1.2.2.2.1.1
          obtain ⟨k1, k2⟩ := hg.if
          have hcc : cntE (.iff a rs os) = 1 + cntEs rs + cntEs os := rfl
          have l4 := lines_cnts (n + 1) rs
          have l5 := lines_cnts (n + 1) os
          have e1 : ((n : Int) + 1) = ((n + 1 : Nat) : Int) := rfl
          refine .inr ⟨x, _, rfl, hexx, ha.shl.ok, hg.str (by omega), fun H2 s2 => ?_⟩
          have hf2 := s2 _ _ hfx
          walk_at "sy"
          rename_i H3 c3
          have s3 : Same H H3 := c3.sameOwn (sx.trans s2) ff
          obtain ⟨pu, _, rfl, hpu, hvs⟩ := hd2
          obtain ⟨_, vr, rfl, hw, hvs⟩ := hvs
          obtain rfl : _ = V.str (Str.ofString "if") := hw
          obtain ⟨w1, _, rfl, h1, hvs⟩ := hvs
          obtain ⟨_, _, rfl, ⟨r1, ws1, rfl, hr1, hws1⟩, hvs⟩ := hvs
          obtain ⟨_, _, rfl, ⟨r2, ws2, rfl, hr2, hws2⟩, hvs⟩ := hvs
          obtain rfl : _ = [] := hvs
          have hpu3 := s3 _ _ hpu
          walk_at "sy"
          rename_i t4 H4 n4
          have s4 := s3.trans n4.same
          have hf4 := n4.get c3.at_
          have hpu4 := n4.get hpu3
          refine ⟨r1, ws1, rs, n + 1, rfl, s4 _ _ hr1, hws1.keep (Keep.of s4), by omega, by omega, by omega, k1, by omega, fun H5 g5 s5 hg5 => ?_⟩
          have s5' := s4.trans s5
          have hf5 := s5 _ _ hf4
          have hpu5 := s5 _ _ hpu4
          refine w_cat hf5 hg5 (by simp only [List.length_append, List.length_cons, List.length_nil, strs_len]; rw [strs_len] at hll; have := sizeLine_eq; omega) fun p6 H6 n6 => ?_
          have hpu6 := n6.get hpu5
          have s6 := s5'.trans n6.same
          have hf6 : H p6 = none := s5'.free n6.free
          have l7 : (((linesEs n (es.take i)).map V.str ++ [V.str (ind n ++ headE (.iff a rs os))]) ++ (linesEs (n + 1) rs).map V.str).length ≤ 1000 := by simp only [List.length_append, List.length_cons, List.length_nil, strs_len]; rw [strs_len] at hll; omega
          walk_at "sy"
          rename_i t7 H7 n7
          refine w_neNilT (n7.get (s6 _ _ hr2)) n7.at_ ?_
          have hpu7 := n7.get hpu6
          have hp67 := n7.get n6.at_
          cases os with
          | nil =>
            obtain rfl : ws2 = [] := hws2
            walk_at "sy"
            rename_i t8 H8 n8
            refine w_ind hn1 (by omega) ?_
            have hp68 := n8.get hp67
            have hpu8 := n8.get hpu7
            walk_at "sy"
            rename_i t9 H9 n9 H10 c10
            refine ⟨p6, _, rfl, hf6, c10.sameOwn (s6.trans (n7.same.trans (n8.same.trans n9.same))) hf6, ?_⟩
            rw [takeL_snoc n he]
            have e6 := c10.at_
            rw [show linesE n (.iff a rs []) = (ind n ++ headE (.iff a [] [])) :: (linesEs (n + 1) rs ++ ([] ++ [ind n ++ Str.ofString "fi"])) from rfl]
            simp only [List.map_append, List.map_cons, List.map_nil, List.append_assoc, List.cons_append, List.nil_append] at e6 ⊢
            exact e6
          | cons o os =>
            have hws20 := hws2
            obtain ⟨vo, uo, rfl, ho, huo⟩ := hws2
            refine ⟨true, rfl, ?_⟩
            rw [if_pos rfl]
            walk_at "sy"
            refine w_ind hn1 (by omega) ?_
            walk_at "sy"
            rename_i t8 H8 n8 p9 H9 n9
            have s9 := s6.trans (n7.same.trans (n8.same.trans n9.same))
            refine ⟨r2, vo :: uo, o :: os, n + 1, rfl, s9 _ _ hr2, hws20.keep (Keep.of s9), by omega, by omega, by omega, k2, by omega, fun H10 g10 s10 hg10 => ?_⟩
            have hp910 := s10 _ _ n9.at_
            have l9 : ((((linesEs n (es.take i)).map V.str ++ [V.str (ind n ++ headE (.iff a rs (o :: os)))]) ++ (linesEs (n + 1) rs).map V.str) ++ [V.str (ind n ++ Str.ofString "else")]).length ≤ 1001 := by rw [List.length_append]; simp only [List.length_cons, List.length_nil] at *; omega
            refine w_cat hp910 hg10 (by rw [strs_len (linesEs (n + 1) (o :: os))]; have := sizeLine_eq; omega) fun p11 H11 n11 => ?_
            have s11 := s9.trans (s10.trans n11.same)
            have hf11 : H p11 = none := (s9.trans s10).free n11.free
            have hpu11 := s11 _ _ hpu
            have l11 : (((((linesEs n (es.take i)).map V.str ++ [V.str (ind n ++ headE (.iff a rs (o :: os)))]) ++ (linesEs (n + 1) rs).map V.str) ++ [V.str (ind n ++ Str.ofString "else")]) ++ (linesEs (n + 1) (o :: os)).map V.str).length ≤ 2000 := by rw [List.length_append, strs_len (linesEs (n + 1) (o :: os))]; omega
            walk_at "sy"
            rename_i t12 H12 n12
            refine w_ind hn1 (by omega) ?_
            have hp12 := n12.get n11.at_
            have hpu12 := n12.get hpu11
            walk_at "sy"
            rename_i t13 H13 n13 H14 c14
            refine ⟨p11, _, rfl, hf11, c14.sameOwn (s11.trans (n12.same.trans n13.same)) hf11, ?_⟩
            rw [takeL_snoc n he]
            have e6 := c14.at_
            rw [show linesE n (.iff a rs (o :: os)) = (ind n ++ headE (.iff a [] [])) :: (linesEs (n + 1) rs ++ (((ind n ++ Str.ofString "else") :: linesEs (n + 1) (o :: os)) ++ [ind n ++ Str.ofString "fi"])) from rfl]
            simp only [List.map_append, List.map_cons, List.map_nil, List.append_assoc, List.cons_append, List.nil_append] at e6 ⊢
            exact e6
      | whl a rs =>
        cases d with
        | zero => exact hg.1.1.elim
        | succ d =>
          have ha : atOk a := hg.1.2.2.2.1.1
          have k1 := hg.wh
          have hcc : cntE (.whl a rs) = 1 + cntEs rs := rfl
          have l4 := lines_cnts (n + 1) rs
          have e1 : ((n : Int) + 1) = ((n + 1 : Nat) : Int) := rfl
          refine .inr ⟨x, _, rfl, hexx, ha.shl.ok, hg.str (by omega), fun H2 s2 => ?_⟩
          have hf2 := s2 _ _ hfx
          walk_at "sy"
          rename_i H3 c3
          have s3 : Same H H3 := c3.sameOwn (sx.trans s2) ff
          obtain ⟨pu, _, rfl, hpu, hvs⟩ := hd2
          obtain ⟨_, vr, rfl, hw, hvs⟩ := hvs
          obtain rfl : _ = V.str (Str.ofString "while") := hw
          obtain ⟨w1, _, rfl, h1, hvs⟩ := hvs
          obtain ⟨_, _, rfl, ⟨r1, ws1, rfl, hr1, hws1⟩, hvs⟩ := hvs
          obtain rfl : _ = [] := hvs
          have hpu3 := s3 _ _ hpu
          walk_at "sy"
          rename_i t4 H4 n4
          have s4 := s3.trans n4.same
          have hf4 := n4.get c3.at_
          have hpu4 := n4.get hpu3
          refine ⟨r1, ws1, rs, n + 1, rfl, s4 _ _ hr1, hws1.keep (Keep.of s4), by omega, by omega, by omega, k1, by omega, fun H5 g5 s5 hg5 => ?_⟩
          have s5' := s4.trans s5
          have hf5 := s5 _ _ hf4
          have hpu5 := s5 _ _ hpu4
          refine w_cat hf5 hg5 (by simp only [List.length_append, List.length_cons, List.length_nil, strs_len]; rw [strs_len] at hll; have := sizeLine_eq; omega) fun p6 H6 n6 => ?_
          have hpu6 := n6.get hpu5
          have s6 := s5'.trans n6.same
          walk_at "sy"
          rename_i t7 H7 n7
          refine w_ind hn1 (by omega) ?_
          have hp67 := n7.get n6.at_
          have hpu7 := n7.get hpu6
          have hf6 : H p6 = none := s5'.free n6.free
          have l7 : (((linesEs n (es.take i)).map V.str ++ [V.str (ind n ++ headE (.whl a rs))]) ++ (linesEs (n + 1) rs).map V.str).length ≤ 1000 := by simp only [List.length_append, List.length_cons, List.length_nil, strs_len]; rw [strs_len] at hll; omega
          walk_at "sy"
          rename_i t8 H8 n8 H9 c9
          refine ⟨p6, _, rfl, hf6, c9.sameOwn (s6.trans (n7.same.trans n8.same)) hf6, ?_⟩
          rw [takeL_snoc n he]
          have e6 := c9.at_
          rw [show linesE n (.whl a rs) = (ind n ++ headE (.whl a [])) :: (linesEs (n + 1) rs ++ [ind n ++ Str.ofString "od"]) from rfl]
          simp only [List.map_append, List.map_cons, List.map_nil, List.append_assoc, List.cons_append, List.nil_append] at e6 ⊢
          exact e6
      | _ => cases d <;> exact hg.1.1.elim
    · rintro σ Hx ⟨f, v3, rfl, ff, sx, hfx⟩
      rw [hul, List.take_length] at hfx
      walk_at "sy"
      exact q _ _ sx hfx
end
/-! ### the law's rows of a program -/
section
variable {P : Program} {w : World} {K : PySem.W.Frag} {mg : Str → Option Value} {base : Heap}
def parW (x y z : Str) : List Str := (if x = Str.ofString "look" ∨ x = Str.ofString "hand" then [x] else []) ++ [y, z]
def tripW : Dt → List Str
  | .tup [.str x, .str y, .str z] => parW x y z
  | _ => [Str.ofString ""]
def tripWs : List Dt → List Str
  | [] => []
  | d :: ds => tripW d ++ tripWs ds
theorem tripWs_snoc (d : Dt) : ∀ ds : List Dt, tripWs (ds ++ [d]) = tripWs ds ++ tripW d
  | [] => by show tripW d ++ [] = [] ++ tripW d; simp
  | x :: ds => by
    show tripW x ++ tripWs (ds ++ [d]) = tripW x ++ tripWs ds ++ tripW d
    rw [tripWs_snoc d ds, List.append_assoc]
def helW (n : Str) (ps : List Dt) (g : Option Str) : List Str := [Str.ofString "helper", n] ++ tripWs ps ++ givesL g
/-- what stands behind the first -/
def tlS : List Str → Str
  | [] => ⟨#[]⟩
  | y :: t => Str.ofString " " ++ y ++ tlS t
theorem app_nil (a : Str) : a ++ (⟨#[]⟩ : Str) = a := by
  show (⟨a.cps ++ #[]⟩ : Str) = a
  simp
theorem nil_app (a : Str) : (⟨#[]⟩ : Str) ++ a = a := by
  show (⟨#[] ++ a.cps⟩ : Str) = a
  simp
theorem joinB_cons (x : Str) : ∀ l : List Str, joinB (x :: l) = x ++ tlS l
  | [] => by
    rw [joinB, TL.join_eq]
    show x = x ++ _
    rw [show tlS [] = ⟨#[]⟩ from rfl, app_nil]
  | y :: t => by
    have ih := joinB_cons y t
    rw [joinB, TL.join_eq] at ih ⊢
    show x ++ Str.ofString " " ++ Str.join (Str.ofString " ") (y :: t) = x ++ (Str.ofString " " ++ y ++ tlS t)
    rw [ih]
    simp only [app_assoc]
theorem tlS_app : ∀ a b : List Str, tlS (a ++ b) = tlS a ++ tlS b
  | [], b => by rw [List.nil_append, show tlS [] = ⟨#[]⟩ from rfl, nil_app]
  | y :: t, b => by
    show Str.ofString " " ++ y ++ tlS (t ++ b) = Str.ofString " " ++ y ++ tlS t ++ tlS b
    rw [tlS_app t b]
    simp only [app_assoc]
theorem tlS_one (s : Str) : tlS [s] = Str.ofString " " ++ s := by
  show Str.ofString " " ++ s ++ (⟨#[]⟩ : Str) = _
  rw [app_nil]
theorem tl_par (x y z : Str) : tlS (parW x y z) = tlS [parT x y z] := by
  rw [tlS_one]
  unfold parW parT
  split
  · show Str.ofString " " ++ x ++ (Str.ofString " " ++ y ++ (Str.ofString " " ++ z ++ (⟨#[]⟩ : Str))) = _
    rw [app_nil]
    simp only [app_assoc]
  · show Str.ofString " " ++ y ++ (Str.ofString " " ++ z ++ (⟨#[]⟩ : Str)) = _
    rw [app_nil]
    simp only [app_assoc]
theorem tl_pars : ∀ {ps : List Dt}, (∀ d ∈ ps, parD d) → tlS (tripWs ps) = tlS (ps.map tripS)
  | [], _ => rfl
  | d :: ps, h => by
    have ih := tl_pars fun x hx => h x (List.mem_cons_of_mem _ hx)
    obtain ⟨x, y, z, rfl, _⟩ := h d (List.mem_cons_self ..)
    show tlS (parW x y z ++ tripWs ps) = tlS ([parT x y z] ++ ps.map tripS)
    rw [tlS_app, tlS_app, ih, tl_par]
theorem helW_eq {n : Str} {ps : List Dt} {g : Option Str} (h : ∀ d ∈ ps, parD d) : joinB (helW n ps g) = helS n ps g := by
  unfold helW helS
  show joinB (Str.ofString "helper" :: ([n] ++ tripWs ps ++ givesL g)) = joinB (Str.ofString "helper" :: ([n] ++ ps.map tripS ++ givesL g))
  rw [joinB_cons, joinB_cons, tlS_app, tlS_app, tlS_app, tlS_app, tl_pars h]
theorem tripWs_le : ∀ {ps : List Dt}, (∀ d ∈ ps, parD d) → (tripWs ps).length ≤ 3 * ps.length ∧ ∀ y ∈ tripWs ps, y.length ≤ 20
  | [], _ => ⟨Nat.le_refl _, fun y hy => by cases hy⟩
  | d :: ps, h => by
    have ih := tripWs_le fun x hx => h x (List.mem_cons_of_mem _ hx)
    obtain ⟨x, y, z, rfl, lx, ly, lz⟩ := par_of (h d (List.mem_cons_self ..))
    refine ⟨?_, fun u hu => ?_⟩
    · show (parW x y z ++ tripWs ps).length ≤ 3 * (ps.length + 1)
      have : (parW x y z).length ≤ 3 := by unfold parW; split <;> simp
      rw [List.length_append]
      omega
    · rcases List.mem_append.mp (show u ∈ parW x y z ++ tripWs ps from hu) with hu | hu
      · unfold parW at hu
        rcases List.mem_append.mp hu with hu | hu
        · split at hu
          · rw [List.mem_singleton.mp hu]; exact lx
          · cases hu
        · simp only [List.mem_cons, List.not_mem_nil, or_false] at hu
          rcases hu with rfl | rfl <;> omega
      · exact ih.2 u hu
def spLText (K : PySem.W.Frag) : Sp := fun vs H Q _ => ∃ (v : V) (rs hs : List El), vs = [v] ∧ IsD H (.tup [.tup (elDs rs), .tup (elDs hs)]) v ∧ rs.length ≤ 3 ∧ hs.length ≤ 3 ∧ (∀ e ∈ rs, okR e) ∧ (∀ e ∈ hs, okH e) ∧ ∀ (H' : Hp) (q : Addr), Same H H' → H q = none → H' q = some (.lst ((progL rs hs).map V.str)) → Q (.ref q) H'
theorem ok_l_linesN (T : Tx K mg) : FnOk P w K mg base CX0 3 T.f_l_lines T.d_l_lines ["_law_rows_here", "_law_deep"] (fun _ _ _ _ => False) := T.F_l_lines.ok sc_l_lines (fun vs H Q E h => h.elim) (fun cdv A outer s H vs Q E hr h => h.elim)
theorem ok_l_lines (T : Tx K mg) : ∀ d : Nat, FnOk P w K mg base CX0 (d + 4) T.f_l_lines T.d_l_lines ["_law_rows_here", "_law_deep"] (spLLines K d)
  | 0 => ok_l_linesI (j := 0) (d := 0) T (ok_l_linesN T)
  | d + 1 => ok_l_linesI (j := d + 1) (d := d + 1) T (ok_l_lines T d)
theorem ok_l_text_lines (T : Tx K mg) : FnOk P w K mg base CX0 8 T.f_l_text_lines T.d_l_text_lines ["_law_told"] (spLText K) := by
  refine T.F_l_text_lines.ok sc_l_text_lines (fun vs H Q E h => ?_) (fun cdv A outer s H vs Q E hr h => ?_)
  · obtain ⟨v, rs, hs, rfl, _⟩ := h
    rfl
  · obtain ⟨v, rs, hs, rfl, hv, l1, l2, k1, k2, q⟩ := h
    obtain ⟨p, _, rfl, hp, hvs⟩ := hv
    obtain ⟨_, _, rfl, ⟨q1, us1, rfl, hq1, hu1⟩, hvs⟩ := hvs
    obtain ⟨_, _, rfl, ⟨q2, us2, rfl, hq2, hu2⟩, hvs⟩ := hvs
    obtain rfl : _ = _ := hvs
    refine ⟨_, (pss_cons (ps_set (i := 1) sc_l_text_lines.nd rfl (Or.inl rfl) (pe_lst pa_nil))
      (pss_cons (ps_for PassesOwn.never rfl (pi_tupK (K := K) rfl (pe_ix (ix_tupK (K := K) rfl) (pv 0) pe_int (fun _ _ => rfl))) (pg_name (i := 2) sc_l_text_lines.nd rfl (Or.inl rfl))
        (pss_one (ps_expr (pe_bm PySem.F.plainAttrs_list PySem.F.slot_list_append PySem.F.type_list_append mt_append (pv 1) (pa_cons (pe_join pe_str (pe_op op_cat (pe_lst (pa_cons pe_str (pa_cons (pe_ix (ix_tupK (K := K) rfl) (pv 2) pe_int (fun _ _ => rfl)) pa_nil))) (pe_lc (own := [("_law_field", 8), ("_law_kind_here", 3)]) (tt := tYes) rfl sc_l_text_lines.nd (pi_tupK (K := K) rfl (pe_ix (ix_tupK (K := K) rfl) (pv 2) pe_int (fun _ _ => rfl))) (blkOk_by (own := [("_law_field", 8), ("_law_kind_here", 3)]) (N := ["_law_told", "_law_found", "_law_record", "_law_kind_here", "_law_helper", "_law_words", "_law_how", "_law_name_here", "_law_field"]) (sc := defScope s_l_text_lines) (by decide +kernel)) (fun _ _ _ _ _ => pg_tupK (K := K) (n := 2) rfl rfl (pgs_cons (pg_name (i := 8) sc_l_text_lines.nd rfl (Or.inl rfl)) (pgs_cons (pg_name (i := 3) sc_l_text_lines.nd rfl (Or.inl rfl)) pgs_nil))) (fun _ _ _ _ _ => pts_nil) (fun _ _ _ _ _ => (pe_joined (PJ.cons (pe_fmt (pv 8)) (PJ.cons pe_str (PJ.cons (pe_fmt (pv 3)) PJ.nil)))))))) pa_nil)))))
      (pss_cons (ps_for PassesOwn.never rfl (pi_tupK (K := K) rfl (pe_ix (ix_tupK (K := K) rfl) (pv 0) pe_int (fun _ _ => rfl))) (pg_name (i := 4) sc_l_text_lines.nd rfl (Or.inl rfl))
        (pss_cons (ps_set (i := 5) sc_l_text_lines.nd rfl (Or.inl rfl) (pe_lst (pa_cons pe_str (pa_cons (pe_ix (ix_tupK (K := K) rfl) (pv 4) pe_int (fun _ _ => rfl)) pa_nil))))
        (pss_cons (ps_for PassesOwn.never rfl (pi_tupK (K := K) rfl (pe_ix (ix_tupK (K := K) rfl) (pv 4) pe_int (fun _ _ => rfl))) (pg_tup rfl (pgs_cons (pg_name (i := 6) sc_l_text_lines.nd rfl (Or.inl rfl)) (pgs_cons (pg_name (i := 7) sc_l_text_lines.nd rfl (Or.inl rfl)) (pgs_cons (pg_name (i := 3) sc_l_text_lines.nd rfl (Or.inl rfl)) pgs_nil))))
          (pss_one (ps_set (i := 5) sc_l_text_lines.nd rfl (Or.inl rfl) (pe_op op_cat (pe_op op_cat (pv 5) (pe_op op_rep (pe_lst (pa_cons (pv 6) pa_nil)) (pe_callTy call_int1 (by rfl) T.n_int PyProof.Rows.boot_int (pa_cons (pe_cmpR (in_seqK (K := K) rfl) (pv 6) (pe_tup (pa_cons pe_str (pa_cons pe_str pa_nil))) (by rfl)) pa_nil)))) (pe_lst (pa_cons (pv 7) (pa_cons (pv 3) pa_nil)))))))
        (pss_cons (ps_if (pt_cmp (pc_notN (pe_ix (ix_tupK (K := K) rfl) (pv 4) pe_int (fun _ _ => rfl))))
          (pss_one (ps_set (i := 5) sc_l_text_lines.nd rfl (Or.inl rfl) (pe_op op_cat (pv 5) (pe_lst (pa_cons pe_str (pa_cons (pe_ix (ix_tupK (K := K) rfl) (pv 4) pe_int (fun _ _ => rfl)) pa_nil))))))
          pss_nil)
        (pss_one (ps_set (i := 1) sc_l_text_lines.nd rfl (Or.inl rfl) (pe_op op_cat (pe_op op_cat (pe_op op_cat (pv 1) (pe_lst (pa_cons (pe_join pe_str (pv 5)) pa_nil))) (pe_call (ok_l_lines T 3) (hr.mono (by omega)) rfl T.m_l_lines T.F_l_lines.kp T.B_l_lines .nil pass0 (pa_cons (pe_ix (ix_tupK (K := K) rfl) (pv 4) pe_int (fun _ _ => rfl)) (pa_cons pe_int pa_nil)))) (pe_lst (pa_cons pe_str pa_nil)))))))))
      (pss_one (ps_ret (pv 1)))))), ?_⟩
    have hul1 : us1.length = rs.length := by rw [hu1.len, elDs_len]
    have hul2 : us2.length = hs.length := by rw [hu2.len, elDs_len]
    have pl := prog_le l1 l2 k1 k2
    have bl := blank_len
    have wr : (Str.ofString "record").length ≤ 20 := by decide +kernel
    have wl2 : (Str.ofString "num").length ≤ 20 ∧ (Str.ofString "gives").length ≤ 20 ∧ (Str.ofString "helper").length ≤ 20 := by decide +kernel
    walk_at "sy"
    rename_i f0 H1 n1
    have ff0 := n1.free
    refine k_forT us1 (fun i σ Hx => ∃ (v2 v3 v4 v5 v6 v7 v8 : Option V), σ = [some (.ref p), some (.ref f0), v2, v3, v4, v5, v6, v7, v8] ∧ Same H Hx ∧ Hx f0 = some (.lst (((rs.take i).map recE).map V.str))) ⟨_, _, _, _, _, _, _, rfl, n1.same, n1.at_⟩ (fun i σ Hx _ h => by
      obtain ⟨_, _, _, _, _, _, _, _, sx, _⟩ := h
      exact SqT.of (sx _ _ hq1)) ?_ ?_
    · rintro i x σ Hx hx ⟨v2, v3, v4, v5, v6, v7, v8, rfl, sx, hfx⟩
      obtain ⟨d', hd1, hd2⟩ := hu1.at hx
      obtain ⟨e, he, rfl⟩ := elD_at hd1
      have hR := (k1 e (List.mem_of_getElem? he)).2.2.2
      have hi := (List.getElem?_eq_some_iff.mp he).1
      cases e with
      | rcd n fs =>
        obtain ⟨gn, gl1, gl2, gf⟩ := hR
        have gn1 := gn.sh.1
        obtain ⟨pr, _, rfl, hpr, hvs⟩ := hd2
        obtain ⟨_, _, rfl, hw, hvs⟩ := hvs
        obtain rfl : _ = V.str (Str.ofString "record") := hw
        obtain ⟨_, _, rfl, h1, hvs⟩ := hvs
        obtain rfl : _ = V.str n := h1
        obtain ⟨_, _, rfl, ⟨q3, us3, rfl, hq3, hu3⟩, hvs⟩ := hvs
        obtain rfl : _ = _ := hvs
        have hul3 := hu3.len
        have hprx := sx _ _ hpr
        walk_at "sy"
        rename_i t2 H2 n2
        have s2 := sx.trans n2.same
        have hq32 := s2 _ _ hq3
        have hf2 := n2.get hfx
        refine k_lcT us3 (fun D j Hy => Same H2 Hy ∧ Hy D = some (.lst (((fs.take j).map pairS).map V.str))) (fun D Hy n => ⟨n.same, n.at_⟩) (fun D j Hy _ h => SqT.of (h.1 _ _ hq32)) ?_ ?_
        · rintro D hD j y Hy hy ⟨sy, hDy⟩
          obtain ⟨d, hd, hdx⟩ := hu3.at hy
          have hj := (List.getElem?_eq_some_iff.mp hd).1
          obtain ⟨a, b, rfl, la, lb⟩ := fld_of (gf d (List.mem_of_getElem? hd))
          obtain ⟨px, _, rfl, hpx, hvs⟩ := hdx
          obtain ⟨_, _, rfl, ha, hvs⟩ := hvs
          obtain rfl : _ = V.str a := ha
          obtain ⟨_, _, rfl, hb, hvs⟩ := hvs
          obtain rfl : _ = V.str b := hb
          obtain rfl : _ = [] := hvs
          have hpx2 := sy _ _ (s2 _ _ hpx)
          walk_at "sy"
          show tJs _ Str.empty _ _ _
          refine w_jsn3 (x := a) (y := b) (s := Str.ofString " ") (by exact rfl) (by exact rfl) (by omega) ?_
          refine w_acc hDy (by rw [List.length_map, List.length_map, List.length_take]; have := sizeLine_eq; omega) fun H3 c3 => ?_
          refine ⟨c3.sameOwn sy hD, ?_⟩
          rw [take_snoc hd, List.map_append, List.map_append]
          exact c3.at_
        · rintro D hD Hy ⟨sy, hDy⟩
          rw [hul3, List.take_length] at hDy
          have hf3 := sy _ _ hf2
          have hll : (rs.take i).length ≤ 3 := by rw [List.length_take]; omega
          walk_at "sy"
          rename_i t4 H4 n4
          refine w_join (ys := [Str.ofString "record", n] ++ fs.map pairS) (.inl (SqL.of (by rw [List.map_append]; exact n4.at_))) (joinSz (fun y hy => ?_) (by simp; omega) (Nat.le_of_eq blank_len)) ?_
          · rcases List.mem_append.mp hy with hy | hy
            · simp only [List.mem_cons, List.not_mem_nil, or_false] at hy
              rcases hy with rfl | rfl <;> omega
            · obtain ⟨d, hd, rfl⟩ := List.mem_map.mp hy
              obtain ⟨a, b, rfl, la, lb⟩ := fld_of (gf d hd)
              show (a ++ Str.ofString " " ++ b).length ≤ 1000
              rw [app_len, app_len]
              omega
          have hf4 := n4.get hf3
          walk_at "sy"
          rename_i H5 c5
          refine ⟨_, _, _, _, _, _, _, rfl, c5.sameOwn (s2.trans (sy.trans n4.same)) ff0, ?_⟩
          rw [take_snoc he, List.map_append, List.map_append]
          exact c5.at_
      | _ => exact hR.elim
    · rintro σ Hx ⟨v2, v3, v4, v5, v6, v7, v8, rfl, sx, hfx⟩
      rw [hul1, List.take_length] at hfx
      have hpx := sx _ _ hp
      have hq2x := sx _ _ hq2
      walk_at "sy"
      refine k_forT us2 (fun i σ Hy => ∃ (f : Addr) (v2 v3 v4 v5 v6 v7 v8 : Option V), σ = [some (.ref p), some (.ref f), v2, v3, v4, v5, v6, v7, v8] ∧ Same H Hy ∧ H f = none ∧ Hy f = some (.lst ((rs.map recE ++ helsL (hs.take i)).map V.str))) ⟨f0, _, _, _, _, _, _, _, rfl, sx, ff0, by rw [show helsL (hs.take 0) = [] from rfl, List.append_nil]; exact hfx⟩ (fun i σ Hy _ h => by
        obtain ⟨_, _, _, _, _, _, _, _, _, sy, _⟩ := h
        exact SqT.of (sy _ _ hq2)) ?_ ?_
      · rintro i y σ Hy hy ⟨f, v2, v3, v4, v5, v6, v7, v8, rfl, sy, ff, hfy⟩
        obtain ⟨d', hd1, hd2⟩ := hu2.at hy
        obtain ⟨e, he, rfl⟩ := elD_at hd1
        have hH := k2 e (List.mem_of_getElem? he)
        have hle := hel_le hH
        have hls := (hels_le (hs := hs.take i) fun e m => k2 e (List.mem_of_mem_take m)).1
        have htl : (hs.take i).length ≤ 3 := by rw [List.length_take]; omega
        cases e with
        | hel n ps g es =>
          obtain ⟨hrl, hrg, _, _, hh, hsz, hct⟩ := hH
          have hps := hh.2.1
          have gn1 := hh.1.sh.1
          have htw := tripWs_le hh.2.2.1
          obtain ⟨ph, _, rfl, hph, hvs⟩ := hd2
          obtain ⟨_, _, rfl, hw, hvs⟩ := hvs
          obtain rfl : _ = V.str (Str.ofString "helper") := hw
          obtain ⟨_, _, rfl, h1, hvs⟩ := hvs
          obtain rfl : _ = V.str n := h1
          obtain ⟨_, _, rfl, ⟨q3, us3, rfl, hq3, hu3⟩, hvs⟩ := hvs
          obtain ⟨vg, _, rfl, hg, hvs⟩ := hvs
          obtain ⟨_, _, rfl, ⟨q4, us4, rfl, hq4, hu4⟩, hvs⟩ := hvs
          obtain rfl : _ = _ := hvs
          have hul3 := hu3.len
          have hphy := sy _ _ hph
          have l4 := lines_cnts 1 es
          have kS : ∀ e ∈ es, okS 3 e := fun e m => ⟨hrg e m, by have := sz_mem m; omega⟩
          walk_at "sy"
          rename_i w0 H2 n2
          have s2 := sy.trans n2.same
          have hf2 := n2.get hfy
          have hph2 := n2.get hphy
          have fw0 : H w0 = none := sy.free n2.free
          have hq32 := s2 _ _ hq3
          walk_at "sy"
          refine k_forT us3 (fun j σ Hz => ∃ (wz : Addr) (v2 v3 v6 v7 v8 : Option V), σ = [some (.ref p), some (.ref f), v2, v3, some (.ref ph), some (.ref wz), v6, v7, v8] ∧ Same H2 Hz ∧ Hz wz = some (.lst (([Str.ofString "helper", n] ++ tripWs (ps.take j)).map V.str))) ⟨w0, _, _, _, _, _, rfl, Same.refl _, n2.at_⟩ (fun j σ Hz _ h => by
            obtain ⟨_, _, _, _, _, _, _, sz, _⟩ := h
            exact SqT.of (sz _ _ hq32)) ?_ ?_
          · rintro j y2 σ Hz hy2 ⟨wz, v2, v3, v6, v7, v8, rfl, sz, hwz⟩
            obtain ⟨d, hd, hdx⟩ := hu3.at hy2
            have hj := (List.getElem?_eq_some_iff.mp hd).1
            have htwj := tripWs_le (ps := ps.take j) fun x hx => hh.2.2.1 x (List.mem_of_mem_take hx)
            have htlj : (ps.take j).length ≤ 6 := by rw [List.length_take]; omega
            obtain ⟨a, b, c, rfl, la, lb, lc⟩ := par_of (hh.2.2.1 d (List.mem_of_getElem? hd))
            obtain ⟨px, _, rfl, hpx, hvs⟩ := hdx
            obtain ⟨_, _, rfl, ha, hvs⟩ := hvs
            obtain rfl : _ = V.str a := ha
            obtain ⟨_, _, rfl, hb, hvs⟩ := hvs
            obtain rfl : _ = V.str b := hb
            obtain ⟨_, _, rfl, hc, hvs⟩ := hvs
            obtain rfl : _ = V.str c := hc
            obtain rfl : _ = [] := hvs
            have hpx2 := sz _ _ (s2 _ _ hpx)
            have hin : inV (.str a) [.str (Str.ofString "look"), .str (Str.ofString "hand")] = decide (a = Str.ofString "look" ∨ a = Str.ofString "hand") := by
              have h := inV_str a [Str.ofString "look", Str.ofString "hand"]
              simpa using h
            refine w_gTup hpx2 rfl ?_
            have er : (List.replicate (if inV (V.str a) [V.str (Str.ofString "look"), V.str (Str.ofString "hand")] = true then (1 : Int) else 0).toNat [V.str a]).flatten = (if a = Str.ofString "look" ∨ a = Str.ofString "hand" then [a] else []).map V.str := by
              rw [hin]
              by_cases e : a = Str.ofString "look" ∨ a = Str.ofString "hand"
              · rw [if_pos (decide_eq_true e), if_pos e]; rfl
              · rw [if_neg (by rw [decide_eq_false e]; exact Bool.false_ne_true), if_neg e]; rfl
            have el : (if a = Str.ofString "look" ∨ a = Str.ofString "hand" then [a] else []).length ≤ 1 := by split <;> simp
            walk_at "sy"
            rename_i t3 H3 n3 t4 H4 n4 t5 H5 n5
            rw [er] at n5
            have hwz5 := n5.get (n4.get (n3.get hwz))
            refine w_cat hwz5 n5.at_ (by simp only [List.length_map, List.length_append, List.length_cons, List.length_nil]; have := sizeLine_eq; omega) fun p6 H6 n6 => ?_
            have hlen6 : (([Str.ofString "helper", n] ++ tripWs (ps.take j)).map V.str ++ (if a = Str.ofString "look" ∨ a = Str.ofString "hand" then [a] else []).map V.str).length ≤ 30 := by simp only [List.length_map, List.length_append, List.length_cons, List.length_nil]; omega
            walk_at "sy"
            rename_i t7 H7 n7 t8 H8 n8
            refine ⟨t8, _, _, _, _, _, rfl, sz.trans (n3.same.trans (n4.same.trans (n5.same.trans (n6.same.trans (n7.same.trans n8.same))))), ?_⟩
            rw [n8.at_, take_snoc hd, tripWs_snoc]
            show _ = some (HO.lst ((_ ++ (_ ++ parW a b c)).map V.str))
            unfold parW
            simp only [List.map_append, List.map_cons, List.map_nil, List.append_assoc, List.cons_append, List.nil_append]
          · rintro σ Hz ⟨wz, v2, v3, v6, v7, v8, rfl, sz, hwz⟩
            rw [hul3, List.take_length] at hwz
            have s3 := s2.trans sz
            have hphz := sz _ _ hph2
            cases g with
            | none =>
              obtain rfl : vg = .non := hg
              walk_at "sy"
              refine w_join (ys := [Str.ofString "helper", n] ++ tripWs ps) (.inl (SqL.of hwz)) (joinSz (fun y hy => ?_) (by simp only [List.length_append, List.length_cons, List.length_nil]; omega) (Nat.le_of_eq blank_len)) ?_
              · rcases List.mem_append.mp hy with hy | hy
                · simp only [List.mem_cons, List.not_mem_nil, or_false] at hy
                  rcases hy with rfl | rfl <;> omega
                · exact Nat.le_trans (htw.2 y hy) (by decide)
              have hfz := sz _ _ hf2
              walk_at "sy"
              rename_i t5 H5 n5 p6 H6 n6
              have s6 := s3.trans (n5.same.trans n6.same)
              refine ⟨q4, us4, es, 1, rfl, s6 _ _ hq4, hu4.keep (Keep.of s6), by omega, by omega, by omega, kS, by omega, fun H7 g7 s7 hg7 => ?_⟩
              have hp67 := s7 _ _ n6.at_
              refine w_cat hp67 hg7 (by simp only [List.length_map, List.length_append, List.length_cons, List.length_nil]; have := sizeLine_eq; omega) fun p8 H8 n8 => ?_
              have hl8 : ((rs.map recE ++ helsL (hs.take i)).map V.str ++ [V.str (Txt.join (Str.ofString " ") ([Str.ofString "helper", n] ++ tripWs ps))] ++ (linesEs 1 es).map V.str).length ≤ 500 := by simp only [List.length_map, List.length_append, List.length_cons, List.length_nil]; omega
              walk_at "sy"
              rename_i t9 H9 n9 t10 H10 n10
              refine ⟨t10, _, _, _, _, _, _, _, rfl, s6.trans (s7.trans (n8.same.trans (n9.same.trans n10.same))), (s6.trans (s7.trans (n8.same.trans n9.same))).free n10.free, ?_⟩
              rw [n10.at_, take_snoc he, helsL_snoc]
              rw [show helE (.hel n ps none es) = helS n ps none :: (linesEs 1 es ++ [endS]) from rfl, ← helW_eq hh.2.2.1]
              unfold helW
              simp only [givesL, List.append_nil, List.map_append, List.map_cons, List.map_nil, List.append_assoc, List.cons_append, List.nil_append]
              rfl
            | some gs =>
              obtain rfl : vg = .str gs := hg
              walk_at "sy"
              rename_i ta Ha na tb Hb nb
              have hgs : gs.length ≤ 20 := by
                rcases hh.2.2.2 gs rfl with rfl | hs
                · exact wl2.1
                · exact hs.sh.1
              refine w_join (ys := [Str.ofString "helper", n] ++ tripWs ps ++ givesL (some gs)) (.inl (SqL.of (by rw [List.map_append]; exact nb.at_))) (joinSz (fun y hy => ?_) (by simp only [givesL, List.length_append, List.length_cons, List.length_nil]; omega) (Nat.le_of_eq blank_len)) ?_
              · rcases List.mem_append.mp hy with hy | hy
                · rcases List.mem_append.mp hy with hy | hy
                  · simp only [List.mem_cons, List.not_mem_nil, or_false] at hy
                    rcases hy with rfl | rfl <;> omega
                  · exact Nat.le_trans (htw.2 y hy) (by decide)
                · simp only [givesL, List.mem_cons, List.not_mem_nil, or_false] at hy
                  rcases hy with rfl | rfl <;> omega
              have hfz := nb.get (na.get (sz _ _ hf2))
              have hphb := nb.get (na.get hphz)
              have sab := s3.trans (na.same.trans nb.same)
              walk_at "sy"
              rename_i t5 H5 n5 p6 H6 n6
              have s6 := sab.trans (n5.same.trans n6.same)
              refine ⟨q4, us4, es, 1, rfl, s6 _ _ hq4, hu4.keep (Keep.of s6), by omega, by omega, by omega, kS, by omega, fun H7 g7 s7 hg7 => ?_⟩
              have hp67 := s7 _ _ n6.at_
              refine w_cat hp67 hg7 (by simp only [List.length_map, List.length_append, List.length_cons, List.length_nil]; have := sizeLine_eq; omega) fun p8 H8 n8 => ?_
              have hl8 : ((rs.map recE ++ helsL (hs.take i)).map V.str ++ [V.str (Txt.join (Str.ofString " ") ([Str.ofString "helper", n] ++ tripWs ps ++ givesL (some gs)))] ++ (linesEs 1 es).map V.str).length ≤ 500 := by simp only [List.length_map, List.length_append, List.length_cons, List.length_nil]; omega
              walk_at "sy"
              rename_i t9 H9 n9 t10 H10 n10
              refine ⟨t10, _, _, _, _, _, _, _, rfl, s6.trans (s7.trans (n8.same.trans (n9.same.trans n10.same))), (s6.trans (s7.trans (n8.same.trans n9.same))).free n10.free, ?_⟩
              rw [n10.at_, take_snoc he, helsL_snoc]
              rw [show helE (.hel n ps (some gs) es) = helS n ps (some gs) :: (linesEs 1 es ++ [endS]) from rfl, ← helW_eq hh.2.2.1]
              unfold helW
              simp only [givesL, List.append_nil, List.map_append, List.map_cons, List.map_nil, List.append_assoc, List.cons_append, List.nil_append]
              rfl
        | _ => exact hH.elim
      · rintro σ Hy ⟨f, v2, v3, v4, v5, v6, v7, v8, rfl, sy, ff, hfy⟩
        rw [hul2, List.take_length] at hfy
        walk_at "sy"
        exact q _ _ sy ff hfy
end
section
variable {P : Program} {w : World} {K : PySem.W.Frag} {mg : Str → Option Value} {base : Heap}
theorem dts2 {a b : Dt} {n : Nat} (h1 : smallD a) (h2 : smallD b) (g1 : dpt a ≤ n) (g2 : dpt b ≤ n) : smallD (.tup [a, b]) ∧ dpt (.tup [a, b]) ≤ n + 1 := tup_small (by simp) fun d hd => by
  rcases List.mem_cons.mp hd with rfl | hd
  · exact ⟨h1, g1⟩
  · rcases List.mem_cons.mp hd with rfl | hd
    · exact ⟨h2, g2⟩
    · cases hd
theorem okR_okE {e : El} (h : okR e) : okE 4 e := by
  cases e with
  | rcd n fs => trivial
  | _ => exact absurd h.1 (by simp [isR])
theorem okH_okE {e : El} (h : okH e) : okE 4 e := by
  cases e with
  | hel n ps g rs => exact ⟨h.1, fun r m => okM_ok (h.2.1 r m).1⟩
  | _ => exact h.elim
theorem okH_small {e : El} (h : okH e) : smallD (elD e) ∧ dpt (elD e) ≤ 11 := by
  cases e with
  | hel n ps g rs => exact ⟨h.2.2.1, h.2.2.2.1⟩
  | _ => exact h.elim
def twoD (rs hs : List El) : Dt := .tup [.tup (elDs rs), .tup (elDs hs)]
theorem twoD_small {rs hs : List El} (h1 : rs.length ≤ 10) (h2 : hs.length ≤ 10) (k1 : ∀ e ∈ rs, okR e) (k2 : ∀ e ∈ hs, okH e) : smallD (twoD rs hs) ∧ dpt (twoD rs hs) ≤ 13 := by
  have a1 : smallD (.tup (elDs rs)) ∧ dpt (.tup (elDs rs)) ≤ 11 + 1 := tup_small (by rw [elDs_len]; omega) fun d hd => by
    rw [elDs_eq] at hd
    obtain ⟨e, m, rfl⟩ := List.mem_map.mp hd
    exact ⟨(k1 e m).2.1, by have := (k1 e m).2.2; omega⟩
  have a2 : smallD (.tup (elDs hs)) ∧ dpt (.tup (elDs hs)) ≤ 11 + 1 := tup_small (by rw [elDs_len]; omega) fun d hd => by
    rw [elDs_eq] at hd
    obtain ⟨e, m, rfl⟩ := List.mem_map.mp hd
    exact okH_small (k2 e m)
  exact dts2 a1.1 a2.1 a1.2 a2.2
def spToldP (T : Tx K mg) : Sp := fun vs H Q _ => ∃ (x : Addr) (rs hs : List El), vs = [.ref x] ∧ ProgAtE T H x rs hs ∧ rs.length ≤ 10 ∧ hs.length ≤ 10 ∧ (∀ e ∈ rs, okE 4 e) ∧ (∀ e ∈ hs, okE 4 e) ∧ ∀ H' v, Same H H' → IsD H' (twoD rs hs) v → Q v H'
theorem ok_Program_told (T : Tx K mg) : FnOk P w K mg base CX0 11 T.f_Program_told T.d_Program_told ["self"] (spToldP T) := by
  have al := ok_all_told (P := P) (w := w) (base := base) T 4
  refine T.F_Program_told.ok sc_Program_told (fun vs H Q E h => ?_) (fun cdv A outer s H vs Q E hr h => ?_)
  · obtain ⟨x, rs, hs, rfl, _⟩ := h
    rfl
  · obtain ⟨x, rs, hs, rfl, ⟨dx, q1, q2, us1, us2, hp, hq1, hu1, hq2, hu2⟩, l1, l2, k1, k2, q⟩ := h
    refine ⟨_, (pss_one (ps_ret (pe_tup (pa_cons (pe_call al (hr.mono (by omega)) rfl T.m_all_told T.F_all_told.kp T.B_all_told .nil pass0 (pa_cons (fldK (K := K) rfl (pv 0) rfl) pa_nil)) (pa_cons (pe_call al (hr.mono (by omega)) rfl T.m_all_told T.F_all_told.kp T.B_all_told .nil pass0 (pa_cons (fldK (K := K) rfl (pv 0) rfl) pa_nil)) pa_nil))))), ?_⟩
    have ccl := T.cl_Program
    have na0 := T.na_Program_records
    have na1 := T.na_Program_helpers
    walk_at "sy"
    refine ⟨q1, us1, rs, rfl, hq1, hu1, by omega, k1, fun H1 r1 ws1 s1 hr1 hw1 => ?_⟩
    have hp1 := s1 _ _ hp
    walk_at "sy"
    refine ⟨q2, us2, hs, rfl, s1 _ _ hq2, hu2.keep (Keep.of s1), by omega, k2, fun H2 r2 ws2 s2 hr2 hw2 => ?_⟩
    walk_at "sy"
    rename_i t H3 n3
    exact q _ _ (s1.trans (s2.trans n3.same)) ⟨t, _, rfl, n3.at_, _, _, rfl, ⟨r1, ws1, rfl, n3.get (s2 _ _ hr1), (hw1.keep (Keep.of s2)).keep n3.keep⟩, _, _, rfl, ⟨r2, ws2, rfl, n3.get hr2, hw2.keep n3.keep⟩, rfl⟩
end
/-! ### the law -/
section
variable {P : Program} {w : World} {K : PySem.W.Frag} {mg : Str → Option Value} {base : Heap}
theorem ok_law (T : Tx K mg) : FnOk P w K mg base CX0 24 T.f_law T.d_law ["_law_script"] (spLaw K) := by
  refine T.F_law.ok sc_law (fun vs H Q E h => ?_) (fun cdv A_ outer s_ H vs Q E hr h => ?_)
  · obtain ⟨a, ns, rfl, _⟩ := h
    rfl
  · obtain ⟨a, ns, rfl, hS, _, q⟩ := h
    refine ⟨_, (pss_cons (ps_set (i := 1) sc_law.nd rfl (Or.inl rfl) (pe_lst (pa_cons pe_int pa_nil)))
      (pss_cons (ps_set (i := 2) sc_law.nd rfl (Or.inl rfl) (pe_call (ok_l_program T) (hr.mono (by omega)) rfl T.m_l_program T.F_l_program.kp T.B_l_program .nil pass0 (pa_cons (pv 0) (pa_cons (pv 1) pa_nil))))
      (pss_cons (ps_set (i := 3) sc_law.nd rfl (Or.inl rfl) (pe_call (ok_l_program T) (hr.mono (by omega)) rfl T.m_l_program T.F_l_program.kp T.B_l_program .nil pass0 (pa_cons (pv 0) (pa_cons (pv 1) pa_nil))))
      (pss_cons (ps_set (i := 4) sc_law.nd rfl (Or.inl rfl) (pe_call (ok_l_made_program T) (hr.mono (by omega)) rfl T.m_l_made_program T.F_l_made_program.kp T.B_l_made_program .nil pass0 (pa_cons (pv 2) pa_nil)))
      (pss_cons (ps_set (i := 5) sc_law.nd rfl (Or.inl rfl) (pe_join pe_str (pe_lc (own := [("_law_line", 7)]) (g := gName 7) (tt := tYes) rfl sc_law.nd (pi_listK (K := K) rfl (pe_call (ok_l_text_lines T) (hr.mono (by omega)) rfl T.m_l_text_lines T.F_l_text_lines.kp T.B_l_text_lines .nil pass0 (pa_cons (pv 2) pa_nil))) (blkOk_by (own := [("_law_line", 7)]) (N := ["_law_script", "_law_tape", "_law_told", "_law_beside", "_law_program_here", "_law_due", "_law_other", "_law_line"]) (sc := defScope s_law) (by decide +kernel)) (fun _ _ _ _ _ => pg_name (i := 7) sc_law.nd rfl (Or.inl rfl)) (fun _ _ _ _ _ => pts_nil) (fun _ _ _ _ _ => (pe_op op_add_str (pv 7) pe_str)))))
      (pss_cons (ps_set (i := 6) sc_law.nd rfl (Or.inl rfl) (pe_join pe_str (pe_lc (own := [("_law_line", 7)]) (g := gName 7) (tt := tYes) rfl sc_law.nd (pi_listK (K := K) rfl (pe_call (ok_l_text_lines T) (hr.mono (by omega)) rfl T.m_l_text_lines T.F_l_text_lines.kp T.B_l_text_lines .nil pass0 (pa_cons (pv 3) pa_nil))) (blkOk_by (own := [("_law_line", 7)]) (N := ["_law_script", "_law_tape", "_law_told", "_law_beside", "_law_program_here", "_law_due", "_law_other", "_law_line"]) (sc := defScope s_law) (by decide +kernel)) (fun _ _ _ _ _ => pg_name (i := 7) sc_law.nd rfl (Or.inl rfl)) (fun _ _ _ _ _ => pts_nil) (fun _ _ _ _ _ => (pe_op op_add_str (pv 7) pe_str)))))
      (pss_cons (ps_if (PW.pt (pw_or (pt_not (pt_val (pe_call (ok_l_alike T 15) (hr.mono (by omega)) rfl T.m_l_alike T.F_l_alike.kp T.B_l_alike .nil pass0 (pa_cons (pe_call (ok_written T) (hr.mono (by omega)) rfl T.m_written T.F_written.kp T.B_written .nil pass0 (pa_cons (pv 4) pa_nil)) (pa_cons (pv 5) pa_nil))))) (pw_or1 (pt_not (pt_val (pe_call (ok_l_alike T 15) (hr.mono (by omega)) rfl T.m_l_alike T.F_l_alike.kp T.B_l_alike .nil pass0 (pa_cons (pe_call (ok_written T) (hr.mono (by omega)) rfl T.m_written T.F_written.kp T.B_written .nil pass0 (pa_cons (pe_call (ok_l_made_program T) (hr.mono (by omega)) rfl T.m_l_made_program T.F_l_made_program.kp T.B_l_made_program .nil pass0 (pa_cons (pv 3) pa_nil)) pa_nil)) (pa_cons (pv 6) pa_nil))))))))
        (pss_one (ps_ret pe_bl))
        pss_nil)
      (pss_one (ps_ret (pe_and (pe_call (ok_l_alike T 15) (hr.mono (by omega)) rfl T.m_l_alike T.F_l_alike.kp T.B_l_alike .nil pass0 (pa_cons (pe_call (ok_written T) (hr.mono (by omega)) rfl T.m_written T.F_written.kp T.B_written .nil pass0 (pa_cons (pv 4) pa_nil)) (pa_cons (pv 5) pa_nil))) (pe_one (pe_call (ok_l_alike T 15) (hr.mono (by omega)) rfl T.m_l_alike T.F_l_alike.kp T.B_l_alike .nil pass0 (pa_cons (pe_meth0 (pv 4) T.cl_Program T.M_Program_told (ok_Program_told T) (hr.mono (by omega)) T.B_Program_told .nil pass0) (pa_cons (pv 2) pa_nil)))))))))))))), ?_⟩
    walk_at "sy"
    rename_i tp H1 n1
    have fT := n1.free
    refine ⟨a, tp, ns, 0, rfl, Stays.of hS n1.same fT, n1.at_, by omega, fun H2 v2 k2 r2 hk2 t2 b2 => ?_⟩
    have s2 : Same H H2 := fun x o e => b2 _ _ (n1.same _ _ e) (ne_of_none e fT)
    obtain ⟨rs, hs, h2, l1, l0, l2, ok1, ok2⟩ := r2
    walk_at "sy"
    refine ⟨a, tp, ns, k2, rfl, Stays.of hS s2 fT, t2, by omega, fun H3 v3 k3 r3 hk3 t3 b3 => ?_⟩
    have kp3 := keepB b3 t2
    obtain ⟨rs3, hs3, h3, m1, m0, m2, om1, om2⟩ := r3
    have nl := nl_len
    have hd2 : IsD H3 (twoD rs hs) v2 := h2.keep kp3
    walk_at "sy"
    refine ⟨v2, rs, hs, rfl, h2.keep kp3, by omega, by omega, ok1, ok2, fun H4 x4 s4 g4 => ?_⟩
    have pl := prog_le l1 l2 ok1 ok2
    walk_at "sy"
    refine ⟨v2, rs, hs, rfl, hd2.keep (Keep.of s4), l1, l2, ok1, ok2, fun H5 q5 s5 _ h5 => ?_⟩
    generalize hL : progL rs hs = L at h5 pl
    walk_at "sy"
    refine k_lcL (L.map V.str) (fun E i Hz => Same H5 Hz ∧ Hz E = some (.lst (((L.take i).map (· ++ nlS)).map V.str))) (fun E Hz n => ⟨n.same, n.at_⟩) (fun E i Hz _ h => SqL.of (h.1 _ _ h5)) ?_ ?_
    · rintro E hE i y Hz hy ⟨sz, hEz⟩
      rw [List.getElem?_map] at hy
      obtain ⟨l, hl, rfl⟩ := Option.map_eq_some_iff.mp hy
      have hll := pl.2 l (List.mem_of_getElem? hl)
      have hi := (List.getElem?_eq_some_iff.mp hl).1
      walk_at "sy"
      refine w_addS (x := l) (y := nlS) (by have := sizeLine_eq; omega) ?_
      refine w_acc hEz (by rw [List.length_map, List.length_map, List.length_take]; have := sizeLine_eq; omega) fun H4 c4 => ?_
      refine ⟨c4.sameOwn sz hE, ?_⟩
      rw [take_snoc hl, List.map_append, List.map_append]
      exact c4.at_
    · rintro D hD H6 ⟨s6, h6⟩
      rw [List.length_map, List.take_length] at h6
      walk_at "sy"
      refine w_join (ys := L.map (· ++ nlS)) (.inl (SqL.of h6)) (joinSz2 (fun y hy => ?_) (by rw [List.length_map]; omega) (by omega)) ?_
      · obtain ⟨l, hl, rfl⟩ := List.mem_map.mp hy
        show (l ++ nlS).length ≤ 5001
        rw [app_len]
        have := pl.2 l hl
        omega
      walk_at "sy"
      have eT : Txt.join (Str.ofString "") (L.map (· ++ nlS)) = textP rs hs := by rw [← hL]; rfl
      rw [eT]
      have pl2 := prog_le m1 m2 om1 om2
      have s46 := s4.trans (s5.trans s6)
      refine ⟨v3, rs3, hs3, rfl, h3.keep (Keep.of s46), m1, m2, om1, om2, fun H7 q7 s7 _ h7 => ?_⟩
      generalize hM : progL rs3 hs3 = M at h7 pl2
      walk_at "sy"
      refine k_lcL (M.map V.str) (fun E i Hz => Same H7 Hz ∧ Hz E = some (.lst (((M.take i).map (· ++ nlS)).map V.str))) (fun E Hz n => ⟨n.same, n.at_⟩) (fun E i Hz _ h => SqL.of (h.1 _ _ h7)) ?_ ?_
      · rintro E hE i y Hz hy ⟨sz, hEz⟩
        rw [List.getElem?_map] at hy
        obtain ⟨l, hl, rfl⟩ := Option.map_eq_some_iff.mp hy
        have hll := pl2.2 l (List.mem_of_getElem? hl)
        have hi := (List.getElem?_eq_some_iff.mp hl).1
        walk_at "sy"
        refine w_addS (x := l) (y := nlS) (by have := sizeLine_eq; omega) ?_
        refine w_acc hEz (by rw [List.length_map, List.length_map, List.length_take]; have := sizeLine_eq; omega) fun H4 c4 => ?_
        refine ⟨c4.sameOwn sz hE, ?_⟩
        rw [take_snoc hl, List.map_append, List.map_append]
        exact c4.at_
      · rintro D2 hD2 H8 ⟨s8, h8⟩
        rw [List.length_map, List.take_length] at h8
        walk_at "sy"
        refine w_join (ys := M.map (· ++ nlS)) (.inl (SqL.of h8)) (joinSz2 (fun y hy => ?_) (by rw [List.length_map]; omega) (by omega)) ?_
        · obtain ⟨l, hl, rfl⟩ := List.mem_map.mp hy
          show (l ++ nlS).length ≤ 5001
          rw [app_len]
          have := pl2.2 l hl
          omega
        walk_at "sy"
        have eT2 : Txt.join (Str.ofString "") (M.map (· ++ nlS)) = textP rs3 hs3 := by rw [← hM]; rfl
        rw [eT2]
        have s48 := s5.trans (s6.trans (s7.trans s8))
        refine ⟨x4, rs, hs, rfl, g4.keep (Keep.of s48), l1, l2, ok1, ok2, fun H9 s9 => ?_⟩
        walk_at "sy"
        refine use_alike (.str (textP rs hs)) rfl rfl (show 0 < 15 by decide) trivial (fun H10 s10 => ?_)
        have s410 := s48.trans (s9.trans s10)
        walk_at "sy"
        refine ⟨v3, rs3, hs3, rfl, h3.keep (Keep.of (s4.trans s410)), by omega, by omega, om1, om2, fun H11 x11 s11 g11 => ?_⟩
        walk_at "sy"
        refine ⟨x11, rs3, hs3, rfl, g11, m1, m2, om1, om2, fun H12 s12 => ?_⟩
        walk_at "sy"
        refine use_alike (.str (textP rs3 hs3)) rfl rfl (show 0 < 15 by decide) trivial (fun H13 s13 => ?_)
        have s413 := s410.trans (s11.trans (s12.trans s13))
        walk_at "sy"
        refine ⟨x4, rs, hs, rfl, g4.keep (Keep.of s413), l1, l2, ok1, ok2, fun H14 s14 => ?_⟩
        walk_at "sy"
        refine use_alike (.str (textP rs hs)) rfl rfl (show 0 < 15 by decide) trivial (fun H15 s15 => ?_)
        have s415 := s413.trans (s14.trans s15)
        have gx := g4.keep (Keep.of s415)
        have gx0 := gx
        obtain ⟨dx, q1, q2, us1, us2, hp, _⟩ := gx
        walk_at "sy"
        refine ⟨x4, rs, hs, rfl, gx0, by omega, by omega, fun e m => okR_okE (ok1 e m), fun e m => okH_okE (ok2 e m), fun H16 v16 s16 h16 => ?_⟩
        have hsm := twoD_small (rs := rs) (hs := hs) (by omega) (by omega) ok1 ok2
        walk_at "sy"
        refine use_alike _ h16 (hd2.keep (Keep.of (s4.trans (s415.trans s16)))) (by omega) hsm.1 (fun H17 s17 => ?_)
        walk_at "sy"
        exact q _
end
theorem all_mk {l : PySem.W.OpenLaw} {w : World} {K : PySem.W.Frag} {h : Heap} {mg : Str → Option Value} {fa a_SetRow a_MakeRow a_NoneRow a_GiveRow a_TakeRow a_FillRow a_SwapRow a_GetRow a_PutRow a_HasRow a_DropRow a_LendRow a_StepRow a_CallRow a_BackRow a_AskRow a_TellRow a_IfRow a_WhileRow a_Record a_Helper a_Program a_Row f_shown f_Row_head f_SetRow_init f_SetRow_told f_MakeRow_init f_MakeRow_told f_NoneRow_init f_NoneRow_told f_GiveRow_init f_GiveRow_told f_TakeRow_init f_TakeRow_told f_FillRow_init f_FillRow_told f_SwapRow_init f_SwapRow_told f_GetRow_init f_GetRow_told f_PutRow_init f_PutRow_told f_HasRow_init f_HasRow_told f_DropRow_init f_DropRow_told f_LendRow_init f_LendRow_told f_StepRow_init f_StepRow_told f_CallRow_init f_CallRow_told f_BackRow_init f_BackRow_told f_AskRow_init f_AskRow_told f_TellRow_init f_TellRow_told f_IfRow_init f_IfRow_told f_WhileRow_init f_WhileRow_told f_Record_init f_Record_told f_Helper_init f_Helper_told f_Program_init f_Program_told f_SetRow_head f_MakeRow_head f_HasRow_head f_CallRow_head f_IfRow_head f_WhileRow_head f_all_told f_rows_written f_record_written f_param_written f_helper_written f_written f_l_draw f_l_kept f_l_word f_l_name f_l_number f_l_atom f_l_path f_l_given f_l_plain f_l_rows f_l_kind f_l_param f_l_program f_l_box_row f_l_made f_l_made_program f_l_alike f_l_shown f_l_head f_l_lines f_l_text_lines f_law : Addr} (X : K.In h) (G : h.Ns mainGlobals mg) (hfa : mg "law" = some (.ref fa))
    {od_shown an_shown od_Row_head an_Row_head od_SetRow_init an_SetRow_init od_SetRow_told an_SetRow_told od_MakeRow_init an_MakeRow_init od_MakeRow_told an_MakeRow_told od_NoneRow_init an_NoneRow_init od_NoneRow_told an_NoneRow_told od_GiveRow_init an_GiveRow_init od_GiveRow_told an_GiveRow_told od_TakeRow_init an_TakeRow_init od_TakeRow_told an_TakeRow_told od_FillRow_init an_FillRow_init od_FillRow_told an_FillRow_told od_SwapRow_init an_SwapRow_init od_SwapRow_told an_SwapRow_told od_GetRow_init an_GetRow_init od_GetRow_told an_GetRow_told od_PutRow_init an_PutRow_init od_PutRow_told an_PutRow_told od_HasRow_init an_HasRow_init od_HasRow_told an_HasRow_told od_DropRow_init an_DropRow_init od_DropRow_told an_DropRow_told od_LendRow_init an_LendRow_init od_LendRow_told an_LendRow_told od_StepRow_init an_StepRow_init od_StepRow_told an_StepRow_told od_CallRow_init an_CallRow_init od_CallRow_told an_CallRow_told od_BackRow_init an_BackRow_init od_BackRow_told an_BackRow_told od_AskRow_init an_AskRow_init od_AskRow_told an_AskRow_told od_TellRow_init an_TellRow_init od_TellRow_told an_TellRow_told od_IfRow_init an_IfRow_init od_IfRow_told an_IfRow_told od_WhileRow_init an_WhileRow_init od_WhileRow_told an_WhileRow_told od_Record_init an_Record_init od_Record_told an_Record_told od_Helper_init an_Helper_init od_Helper_told an_Helper_told od_Program_init an_Program_init od_Program_told an_Program_told od_SetRow_head an_SetRow_head od_MakeRow_head an_MakeRow_head od_HasRow_head an_HasRow_head od_CallRow_head an_CallRow_head od_IfRow_head an_IfRow_head od_WhileRow_head an_WhileRow_head od_all_told an_all_told od_rows_written an_rows_written od_record_written an_record_written od_param_written an_param_written od_helper_written an_helper_written od_written an_written od_l_draw an_l_draw od_l_kept an_l_kept od_l_word an_l_word od_l_name an_l_name od_l_number an_l_number od_l_atom an_l_atom od_l_path an_l_path od_l_given an_l_given od_l_plain an_l_plain od_l_rows an_l_rows od_l_kind an_l_kind od_l_param an_l_param od_l_program an_l_program od_l_box_row an_l_box_row od_l_made an_l_made od_l_made_program an_l_made_program od_l_alike an_l_alike od_l_shown an_l_shown od_l_head an_l_head od_l_lines an_l_lines od_l_text_lines an_l_text_lines od_law an_law : Option Addr} {sl_shown sl_Row_head sl_SetRow_init sl_SetRow_told sl_MakeRow_init sl_MakeRow_told sl_NoneRow_init sl_NoneRow_told sl_GiveRow_init sl_GiveRow_told sl_TakeRow_init sl_TakeRow_told sl_FillRow_init sl_FillRow_told sl_SwapRow_init sl_SwapRow_told sl_GetRow_init sl_GetRow_told sl_PutRow_init sl_PutRow_told sl_HasRow_init sl_HasRow_told sl_DropRow_init sl_DropRow_told sl_LendRow_init sl_LendRow_told sl_StepRow_init sl_StepRow_told sl_CallRow_init sl_CallRow_told sl_BackRow_init sl_BackRow_told sl_AskRow_init sl_AskRow_told sl_TellRow_init sl_TellRow_told sl_IfRow_init sl_IfRow_told sl_WhileRow_init sl_WhileRow_told sl_Record_init sl_Record_told sl_Helper_init sl_Helper_told sl_Program_init sl_Program_told sl_SetRow_head sl_MakeRow_head sl_HasRow_head sl_CallRow_head sl_IfRow_head sl_WhileRow_head sl_all_told sl_rows_written sl_record_written sl_param_written sl_helper_written sl_written sl_l_draw sl_l_kept sl_l_word sl_l_name sl_l_number sl_l_atom sl_l_path sl_l_given sl_l_plain sl_l_rows sl_l_kind sl_l_param sl_l_program sl_l_box_row sl_l_made sl_l_made_program sl_l_alike sl_l_shown sl_l_head sl_l_lines sl_l_text_lines sl_law : Array (Option Value)} {oc_shown kV_shown dc_shown pm_shown cd_shown ct_shown oc_Row_head kV_Row_head dc_Row_head pm_Row_head cd_Row_head ct_Row_head oc_SetRow_init kV_SetRow_init dc_SetRow_init pm_SetRow_init cd_SetRow_init ct_SetRow_init oc_SetRow_told kV_SetRow_told dc_SetRow_told pm_SetRow_told cd_SetRow_told ct_SetRow_told oc_MakeRow_init kV_MakeRow_init dc_MakeRow_init pm_MakeRow_init cd_MakeRow_init ct_MakeRow_init oc_MakeRow_told kV_MakeRow_told dc_MakeRow_told pm_MakeRow_told cd_MakeRow_told ct_MakeRow_told oc_NoneRow_init kV_NoneRow_init dc_NoneRow_init pm_NoneRow_init cd_NoneRow_init ct_NoneRow_init oc_NoneRow_told kV_NoneRow_told dc_NoneRow_told pm_NoneRow_told cd_NoneRow_told ct_NoneRow_told oc_GiveRow_init kV_GiveRow_init dc_GiveRow_init pm_GiveRow_init cd_GiveRow_init ct_GiveRow_init oc_GiveRow_told kV_GiveRow_told dc_GiveRow_told pm_GiveRow_told cd_GiveRow_told ct_GiveRow_told oc_TakeRow_init kV_TakeRow_init dc_TakeRow_init pm_TakeRow_init cd_TakeRow_init ct_TakeRow_init oc_TakeRow_told kV_TakeRow_told dc_TakeRow_told pm_TakeRow_told cd_TakeRow_told ct_TakeRow_told oc_FillRow_init kV_FillRow_init dc_FillRow_init pm_FillRow_init cd_FillRow_init ct_FillRow_init oc_FillRow_told kV_FillRow_told dc_FillRow_told pm_FillRow_told cd_FillRow_told ct_FillRow_told oc_SwapRow_init kV_SwapRow_init dc_SwapRow_init pm_SwapRow_init cd_SwapRow_init ct_SwapRow_init oc_SwapRow_told kV_SwapRow_told dc_SwapRow_told pm_SwapRow_told cd_SwapRow_told ct_SwapRow_told oc_GetRow_init kV_GetRow_init dc_GetRow_init pm_GetRow_init cd_GetRow_init ct_GetRow_init oc_GetRow_told kV_GetRow_told dc_GetRow_told pm_GetRow_told cd_GetRow_told ct_GetRow_told oc_PutRow_init kV_PutRow_init dc_PutRow_init pm_PutRow_init cd_PutRow_init ct_PutRow_init oc_PutRow_told kV_PutRow_told dc_PutRow_told pm_PutRow_told cd_PutRow_told ct_PutRow_told oc_HasRow_init kV_HasRow_init dc_HasRow_init pm_HasRow_init cd_HasRow_init ct_HasRow_init oc_HasRow_told kV_HasRow_told dc_HasRow_told pm_HasRow_told cd_HasRow_told ct_HasRow_told oc_DropRow_init kV_DropRow_init dc_DropRow_init pm_DropRow_init cd_DropRow_init ct_DropRow_init oc_DropRow_told kV_DropRow_told dc_DropRow_told pm_DropRow_told cd_DropRow_told ct_DropRow_told oc_LendRow_init kV_LendRow_init dc_LendRow_init pm_LendRow_init cd_LendRow_init ct_LendRow_init oc_LendRow_told kV_LendRow_told dc_LendRow_told pm_LendRow_told cd_LendRow_told ct_LendRow_told oc_StepRow_init kV_StepRow_init dc_StepRow_init pm_StepRow_init cd_StepRow_init ct_StepRow_init oc_StepRow_told kV_StepRow_told dc_StepRow_told pm_StepRow_told cd_StepRow_told ct_StepRow_told oc_CallRow_init kV_CallRow_init dc_CallRow_init pm_CallRow_init cd_CallRow_init ct_CallRow_init oc_CallRow_told kV_CallRow_told dc_CallRow_told pm_CallRow_told cd_CallRow_told ct_CallRow_told oc_BackRow_init kV_BackRow_init dc_BackRow_init pm_BackRow_init cd_BackRow_init ct_BackRow_init oc_BackRow_told kV_BackRow_told dc_BackRow_told pm_BackRow_told cd_BackRow_told ct_BackRow_told oc_AskRow_init kV_AskRow_init dc_AskRow_init pm_AskRow_init cd_AskRow_init ct_AskRow_init oc_AskRow_told kV_AskRow_told dc_AskRow_told pm_AskRow_told cd_AskRow_told ct_AskRow_told oc_TellRow_init kV_TellRow_init dc_TellRow_init pm_TellRow_init cd_TellRow_init ct_TellRow_init oc_TellRow_told kV_TellRow_told dc_TellRow_told pm_TellRow_told cd_TellRow_told ct_TellRow_told oc_IfRow_init kV_IfRow_init dc_IfRow_init pm_IfRow_init cd_IfRow_init ct_IfRow_init oc_IfRow_told kV_IfRow_told dc_IfRow_told pm_IfRow_told cd_IfRow_told ct_IfRow_told oc_WhileRow_init kV_WhileRow_init dc_WhileRow_init pm_WhileRow_init cd_WhileRow_init ct_WhileRow_init oc_WhileRow_told kV_WhileRow_told dc_WhileRow_told pm_WhileRow_told cd_WhileRow_told ct_WhileRow_told oc_Record_init kV_Record_init dc_Record_init pm_Record_init cd_Record_init ct_Record_init oc_Record_told kV_Record_told dc_Record_told pm_Record_told cd_Record_told ct_Record_told oc_Helper_init kV_Helper_init dc_Helper_init pm_Helper_init cd_Helper_init ct_Helper_init oc_Helper_told kV_Helper_told dc_Helper_told pm_Helper_told cd_Helper_told ct_Helper_told oc_Program_init kV_Program_init dc_Program_init pm_Program_init cd_Program_init ct_Program_init oc_Program_told kV_Program_told dc_Program_told pm_Program_told cd_Program_told ct_Program_told oc_SetRow_head kV_SetRow_head dc_SetRow_head pm_SetRow_head cd_SetRow_head ct_SetRow_head oc_MakeRow_head kV_MakeRow_head dc_MakeRow_head pm_MakeRow_head cd_MakeRow_head ct_MakeRow_head oc_HasRow_head kV_HasRow_head dc_HasRow_head pm_HasRow_head cd_HasRow_head ct_HasRow_head oc_CallRow_head kV_CallRow_head dc_CallRow_head pm_CallRow_head cd_CallRow_head ct_CallRow_head oc_IfRow_head kV_IfRow_head dc_IfRow_head pm_IfRow_head cd_IfRow_head ct_IfRow_head oc_WhileRow_head kV_WhileRow_head dc_WhileRow_head pm_WhileRow_head cd_WhileRow_head ct_WhileRow_head oc_all_told kV_all_told dc_all_told pm_all_told cd_all_told ct_all_told oc_rows_written kV_rows_written dc_rows_written pm_rows_written cd_rows_written ct_rows_written oc_record_written kV_record_written dc_record_written pm_record_written cd_record_written ct_record_written oc_param_written kV_param_written dc_param_written pm_param_written cd_param_written ct_param_written oc_helper_written kV_helper_written dc_helper_written pm_helper_written cd_helper_written ct_helper_written oc_written kV_written dc_written pm_written cd_written ct_written oc_l_draw kV_l_draw dc_l_draw pm_l_draw cd_l_draw ct_l_draw oc_l_kept kV_l_kept dc_l_kept pm_l_kept cd_l_kept ct_l_kept oc_l_word kV_l_word dc_l_word pm_l_word cd_l_word ct_l_word oc_l_name kV_l_name dc_l_name pm_l_name cd_l_name ct_l_name oc_l_number kV_l_number dc_l_number pm_l_number cd_l_number ct_l_number oc_l_atom kV_l_atom dc_l_atom pm_l_atom cd_l_atom ct_l_atom oc_l_path kV_l_path dc_l_path pm_l_path cd_l_path ct_l_path oc_l_given kV_l_given dc_l_given pm_l_given cd_l_given ct_l_given oc_l_plain kV_l_plain dc_l_plain pm_l_plain cd_l_plain ct_l_plain oc_l_rows kV_l_rows dc_l_rows pm_l_rows cd_l_rows ct_l_rows oc_l_kind kV_l_kind dc_l_kind pm_l_kind cd_l_kind ct_l_kind oc_l_param kV_l_param dc_l_param pm_l_param cd_l_param ct_l_param oc_l_program kV_l_program dc_l_program pm_l_program cd_l_program ct_l_program oc_l_box_row kV_l_box_row dc_l_box_row pm_l_box_row cd_l_box_row ct_l_box_row oc_l_made kV_l_made dc_l_made pm_l_made cd_l_made ct_l_made oc_l_made_program kV_l_made_program dc_l_made_program pm_l_made_program cd_l_made_program ct_l_made_program oc_l_alike kV_l_alike dc_l_alike pm_l_alike cd_l_alike ct_l_alike oc_l_shown kV_l_shown dc_l_shown pm_l_shown cd_l_shown ct_l_shown oc_l_head kV_l_head dc_l_head pm_l_head cd_l_head ct_l_head oc_l_lines kV_l_lines dc_l_lines pm_l_lines cd_l_lines ct_l_lines oc_l_text_lines kV_l_text_lines dc_l_text_lines pm_l_text_lines cd_l_text_lines ct_l_text_lines oc_law kV_law dc_law pm_law cd_law ct_law : Value}
    (zn_isinstance : PySem.W.nsIn K mainGlobals "isinstance" = some none)
    (zn_tuple : PySem.W.nsIn K mainGlobals "tuple" = some none)
    (zn_str : PySem.W.nsIn K mainGlobals "str" = some none)
    (zn_len : PySem.W.nsIn K mainGlobals "len" = some none)
    (zn_range : PySem.W.nsIn K mainGlobals "range" = some none)
    (zn_all : PySem.W.nsIn K mainGlobals "all" = some none)
    (zn_zip : PySem.W.nsIn K mainGlobals "zip" = some none)
    (zn_int : PySem.W.nsIn K mainGlobals "int" = some none)
    (zn_bool : PySem.W.nsIn K mainGlobals "bool" = some none)
    (zc_SetRow : PySem.W.nsIn K mainGlobals "SetRow" = some (some (.ref a_SetRow)))
    (zpg_SetRow : PySem.W.plainGet K a_SetRow Str.empty = true)
    (zhd_SetRow : PySem.W.hasDictIn K a_SetRow = true)
    (zpo_SetRow : PySem.W.plainOver K a_SetRow = true)
    (zsa_SetRow : PySem.W.findIn K (.ref a_SetRow) "__setattr__" = some (some (.builtin "object.__setattr__")))
    (zmk_SetRow : PySem.W.makesIn K a_SetRow = true)
    (zkc_SetRow : PySem.W.keepIn K (.ref a_SetRow) = true)
    (zna_SetRow_name : PySem.W.findIn K (.ref a_SetRow) "name" = some none)
    (zna_SetRow_one : PySem.W.findIn K (.ref a_SetRow) "one" = some none)
    (zna_SetRow_sign : PySem.W.findIn K (.ref a_SetRow) "sign" = some none)
    (zna_SetRow_other : PySem.W.findIn K (.ref a_SetRow) "other" = some none)
    (zc_MakeRow : PySem.W.nsIn K mainGlobals "MakeRow" = some (some (.ref a_MakeRow)))
    (zpg_MakeRow : PySem.W.plainGet K a_MakeRow Str.empty = true)
    (zhd_MakeRow : PySem.W.hasDictIn K a_MakeRow = true)
    (zpo_MakeRow : PySem.W.plainOver K a_MakeRow = true)
    (zsa_MakeRow : PySem.W.findIn K (.ref a_MakeRow) "__setattr__" = some (some (.builtin "object.__setattr__")))
    (zmk_MakeRow : PySem.W.makesIn K a_MakeRow = true)
    (zkc_MakeRow : PySem.W.keepIn K (.ref a_MakeRow) = true)
    (zna_MakeRow_name : PySem.W.findIn K (.ref a_MakeRow) "name" = some none)
    (zna_MakeRow_record : PySem.W.findIn K (.ref a_MakeRow) "record" = some none)
    (zna_MakeRow_atoms : PySem.W.findIn K (.ref a_MakeRow) "atoms" = some none)
    (zc_NoneRow : PySem.W.nsIn K mainGlobals "NoneRow" = some (some (.ref a_NoneRow)))
    (zpg_NoneRow : PySem.W.plainGet K a_NoneRow Str.empty = true)
    (zhd_NoneRow : PySem.W.hasDictIn K a_NoneRow = true)
    (zpo_NoneRow : PySem.W.plainOver K a_NoneRow = true)
    (zsa_NoneRow : PySem.W.findIn K (.ref a_NoneRow) "__setattr__" = some (some (.builtin "object.__setattr__")))
    (zmk_NoneRow : PySem.W.makesIn K a_NoneRow = true)
    (zkc_NoneRow : PySem.W.keepIn K (.ref a_NoneRow) = true)
    (zna_NoneRow_name : PySem.W.findIn K (.ref a_NoneRow) "name" = some none)
    (zna_NoneRow_record : PySem.W.findIn K (.ref a_NoneRow) "record" = some none)
    (zc_GiveRow : PySem.W.nsIn K mainGlobals "GiveRow" = some (some (.ref a_GiveRow)))
    (zpg_GiveRow : PySem.W.plainGet K a_GiveRow Str.empty = true)
    (zhd_GiveRow : PySem.W.hasDictIn K a_GiveRow = true)
    (zpo_GiveRow : PySem.W.plainOver K a_GiveRow = true)
    (zsa_GiveRow : PySem.W.findIn K (.ref a_GiveRow) "__setattr__" = some (some (.builtin "object.__setattr__")))
    (zmk_GiveRow : PySem.W.makesIn K a_GiveRow = true)
    (zkc_GiveRow : PySem.W.keepIn K (.ref a_GiveRow) = true)
    (zna_GiveRow_name : PySem.W.findIn K (.ref a_GiveRow) "name" = some none)
    (zna_GiveRow_other : PySem.W.findIn K (.ref a_GiveRow) "other" = some none)
    (zc_TakeRow : PySem.W.nsIn K mainGlobals "TakeRow" = some (some (.ref a_TakeRow)))
    (zpg_TakeRow : PySem.W.plainGet K a_TakeRow Str.empty = true)
    (zhd_TakeRow : PySem.W.hasDictIn K a_TakeRow = true)
    (zpo_TakeRow : PySem.W.plainOver K a_TakeRow = true)
    (zsa_TakeRow : PySem.W.findIn K (.ref a_TakeRow) "__setattr__" = some (some (.builtin "object.__setattr__")))
    (zmk_TakeRow : PySem.W.makesIn K a_TakeRow = true)
    (zkc_TakeRow : PySem.W.keepIn K (.ref a_TakeRow) = true)
    (zna_TakeRow_name : PySem.W.findIn K (.ref a_TakeRow) "name" = some none)
    (zna_TakeRow_path : PySem.W.findIn K (.ref a_TakeRow) "path" = some none)
    (zc_FillRow : PySem.W.nsIn K mainGlobals "FillRow" = some (some (.ref a_FillRow)))
    (zpg_FillRow : PySem.W.plainGet K a_FillRow Str.empty = true)
    (zhd_FillRow : PySem.W.hasDictIn K a_FillRow = true)
    (zpo_FillRow : PySem.W.plainOver K a_FillRow = true)
    (zsa_FillRow : PySem.W.findIn K (.ref a_FillRow) "__setattr__" = some (some (.builtin "object.__setattr__")))
    (zmk_FillRow : PySem.W.makesIn K a_FillRow = true)
    (zkc_FillRow : PySem.W.keepIn K (.ref a_FillRow) = true)
    (zna_FillRow_path : PySem.W.findIn K (.ref a_FillRow) "path" = some none)
    (zna_FillRow_name : PySem.W.findIn K (.ref a_FillRow) "name" = some none)
    (zc_SwapRow : PySem.W.nsIn K mainGlobals "SwapRow" = some (some (.ref a_SwapRow)))
    (zpg_SwapRow : PySem.W.plainGet K a_SwapRow Str.empty = true)
    (zhd_SwapRow : PySem.W.hasDictIn K a_SwapRow = true)
    (zpo_SwapRow : PySem.W.plainOver K a_SwapRow = true)
    (zsa_SwapRow : PySem.W.findIn K (.ref a_SwapRow) "__setattr__" = some (some (.builtin "object.__setattr__")))
    (zmk_SwapRow : PySem.W.makesIn K a_SwapRow = true)
    (zkc_SwapRow : PySem.W.keepIn K (.ref a_SwapRow) = true)
    (zna_SwapRow_name : PySem.W.findIn K (.ref a_SwapRow) "name" = some none)
    (zna_SwapRow_path : PySem.W.findIn K (.ref a_SwapRow) "path" = some none)
    (zc_GetRow : PySem.W.nsIn K mainGlobals "GetRow" = some (some (.ref a_GetRow)))
    (zpg_GetRow : PySem.W.plainGet K a_GetRow Str.empty = true)
    (zhd_GetRow : PySem.W.hasDictIn K a_GetRow = true)
    (zpo_GetRow : PySem.W.plainOver K a_GetRow = true)
    (zsa_GetRow : PySem.W.findIn K (.ref a_GetRow) "__setattr__" = some (some (.builtin "object.__setattr__")))
    (zmk_GetRow : PySem.W.makesIn K a_GetRow = true)
    (zkc_GetRow : PySem.W.keepIn K (.ref a_GetRow) = true)
    (zna_GetRow_name : PySem.W.findIn K (.ref a_GetRow) "name" = some none)
    (zna_GetRow_path : PySem.W.findIn K (.ref a_GetRow) "path" = some none)
    (zc_PutRow : PySem.W.nsIn K mainGlobals "PutRow" = some (some (.ref a_PutRow)))
    (zpg_PutRow : PySem.W.plainGet K a_PutRow Str.empty = true)
    (zhd_PutRow : PySem.W.hasDictIn K a_PutRow = true)
    (zpo_PutRow : PySem.W.plainOver K a_PutRow = true)
    (zsa_PutRow : PySem.W.findIn K (.ref a_PutRow) "__setattr__" = some (some (.builtin "object.__setattr__")))
    (zmk_PutRow : PySem.W.makesIn K a_PutRow = true)
    (zkc_PutRow : PySem.W.keepIn K (.ref a_PutRow) = true)
    (zna_PutRow_path : PySem.W.findIn K (.ref a_PutRow) "path" = some none)
    (zna_PutRow_atom : PySem.W.findIn K (.ref a_PutRow) "atom" = some none)
    (zc_HasRow : PySem.W.nsIn K mainGlobals "HasRow" = some (some (.ref a_HasRow)))
    (zpg_HasRow : PySem.W.plainGet K a_HasRow Str.empty = true)
    (zhd_HasRow : PySem.W.hasDictIn K a_HasRow = true)
    (zpo_HasRow : PySem.W.plainOver K a_HasRow = true)
    (zsa_HasRow : PySem.W.findIn K (.ref a_HasRow) "__setattr__" = some (some (.builtin "object.__setattr__")))
    (zmk_HasRow : PySem.W.makesIn K a_HasRow = true)
    (zkc_HasRow : PySem.W.keepIn K (.ref a_HasRow) = true)
    (zna_HasRow_name : PySem.W.findIn K (.ref a_HasRow) "name" = some none)
    (zna_HasRow_path : PySem.W.findIn K (.ref a_HasRow) "path" = some none)
    (zc_DropRow : PySem.W.nsIn K mainGlobals "DropRow" = some (some (.ref a_DropRow)))
    (zpg_DropRow : PySem.W.plainGet K a_DropRow Str.empty = true)
    (zhd_DropRow : PySem.W.hasDictIn K a_DropRow = true)
    (zpo_DropRow : PySem.W.plainOver K a_DropRow = true)
    (zsa_DropRow : PySem.W.findIn K (.ref a_DropRow) "__setattr__" = some (some (.builtin "object.__setattr__")))
    (zmk_DropRow : PySem.W.makesIn K a_DropRow = true)
    (zkc_DropRow : PySem.W.keepIn K (.ref a_DropRow) = true)
    (zna_DropRow_name : PySem.W.findIn K (.ref a_DropRow) "name" = some none)
    (zc_LendRow : PySem.W.nsIn K mainGlobals "LendRow" = some (some (.ref a_LendRow)))
    (zpg_LendRow : PySem.W.plainGet K a_LendRow Str.empty = true)
    (zhd_LendRow : PySem.W.hasDictIn K a_LendRow = true)
    (zpo_LendRow : PySem.W.plainOver K a_LendRow = true)
    (zsa_LendRow : PySem.W.findIn K (.ref a_LendRow) "__setattr__" = some (some (.builtin "object.__setattr__")))
    (zmk_LendRow : PySem.W.makesIn K a_LendRow = true)
    (zkc_LendRow : PySem.W.keepIn K (.ref a_LendRow) = true)
    (zna_LendRow_mode : PySem.W.findIn K (.ref a_LendRow) "mode" = some none)
    (zna_LendRow_name : PySem.W.findIn K (.ref a_LendRow) "name" = some none)
    (zna_LendRow_path : PySem.W.findIn K (.ref a_LendRow) "path" = some none)
    (zc_StepRow : PySem.W.nsIn K mainGlobals "StepRow" = some (some (.ref a_StepRow)))
    (zpg_StepRow : PySem.W.plainGet K a_StepRow Str.empty = true)
    (zhd_StepRow : PySem.W.hasDictIn K a_StepRow = true)
    (zpo_StepRow : PySem.W.plainOver K a_StepRow = true)
    (zsa_StepRow : PySem.W.findIn K (.ref a_StepRow) "__setattr__" = some (some (.builtin "object.__setattr__")))
    (zmk_StepRow : PySem.W.makesIn K a_StepRow = true)
    (zkc_StepRow : PySem.W.keepIn K (.ref a_StepRow) = true)
    (zna_StepRow_name : PySem.W.findIn K (.ref a_StepRow) "name" = some none)
    (zna_StepRow_field : PySem.W.findIn K (.ref a_StepRow) "field" = some none)
    (zc_CallRow : PySem.W.nsIn K mainGlobals "CallRow" = some (some (.ref a_CallRow)))
    (zpg_CallRow : PySem.W.plainGet K a_CallRow Str.empty = true)
    (zhd_CallRow : PySem.W.hasDictIn K a_CallRow = true)
    (zpo_CallRow : PySem.W.plainOver K a_CallRow = true)
    (zsa_CallRow : PySem.W.findIn K (.ref a_CallRow) "__setattr__" = some (some (.builtin "object.__setattr__")))
    (zmk_CallRow : PySem.W.makesIn K a_CallRow = true)
    (zkc_CallRow : PySem.W.keepIn K (.ref a_CallRow) = true)
    (zna_CallRow_name : PySem.W.findIn K (.ref a_CallRow) "name" = some none)
    (zna_CallRow_helper : PySem.W.findIn K (.ref a_CallRow) "helper" = some none)
    (zna_CallRow_given : PySem.W.findIn K (.ref a_CallRow) "given" = some none)
    (zc_BackRow : PySem.W.nsIn K mainGlobals "BackRow" = some (some (.ref a_BackRow)))
    (zpg_BackRow : PySem.W.plainGet K a_BackRow Str.empty = true)
    (zhd_BackRow : PySem.W.hasDictIn K a_BackRow = true)
    (zpo_BackRow : PySem.W.plainOver K a_BackRow = true)
    (zsa_BackRow : PySem.W.findIn K (.ref a_BackRow) "__setattr__" = some (some (.builtin "object.__setattr__")))
    (zmk_BackRow : PySem.W.makesIn K a_BackRow = true)
    (zkc_BackRow : PySem.W.keepIn K (.ref a_BackRow) = true)
    (zna_BackRow_atom : PySem.W.findIn K (.ref a_BackRow) "atom" = some none)
    (zc_AskRow : PySem.W.nsIn K mainGlobals "AskRow" = some (some (.ref a_AskRow)))
    (zpg_AskRow : PySem.W.plainGet K a_AskRow Str.empty = true)
    (zhd_AskRow : PySem.W.hasDictIn K a_AskRow = true)
    (zpo_AskRow : PySem.W.plainOver K a_AskRow = true)
    (zsa_AskRow : PySem.W.findIn K (.ref a_AskRow) "__setattr__" = some (some (.builtin "object.__setattr__")))
    (zmk_AskRow : PySem.W.makesIn K a_AskRow = true)
    (zkc_AskRow : PySem.W.keepIn K (.ref a_AskRow) = true)
    (zna_AskRow_name : PySem.W.findIn K (.ref a_AskRow) "name" = some none)
    (zc_TellRow : PySem.W.nsIn K mainGlobals "TellRow" = some (some (.ref a_TellRow)))
    (zpg_TellRow : PySem.W.plainGet K a_TellRow Str.empty = true)
    (zhd_TellRow : PySem.W.hasDictIn K a_TellRow = true)
    (zpo_TellRow : PySem.W.plainOver K a_TellRow = true)
    (zsa_TellRow : PySem.W.findIn K (.ref a_TellRow) "__setattr__" = some (some (.builtin "object.__setattr__")))
    (zmk_TellRow : PySem.W.makesIn K a_TellRow = true)
    (zkc_TellRow : PySem.W.keepIn K (.ref a_TellRow) = true)
    (zna_TellRow_atom : PySem.W.findIn K (.ref a_TellRow) "atom" = some none)
    (zc_IfRow : PySem.W.nsIn K mainGlobals "IfRow" = some (some (.ref a_IfRow)))
    (zpg_IfRow : PySem.W.plainGet K a_IfRow Str.empty = true)
    (zhd_IfRow : PySem.W.hasDictIn K a_IfRow = true)
    (zpo_IfRow : PySem.W.plainOver K a_IfRow = true)
    (zsa_IfRow : PySem.W.findIn K (.ref a_IfRow) "__setattr__" = some (some (.builtin "object.__setattr__")))
    (zmk_IfRow : PySem.W.makesIn K a_IfRow = true)
    (zkc_IfRow : PySem.W.keepIn K (.ref a_IfRow) = true)
    (zna_IfRow_atom : PySem.W.findIn K (.ref a_IfRow) "atom" = some none)
    (zna_IfRow_rows : PySem.W.findIn K (.ref a_IfRow) "rows" = some none)
    (zna_IfRow_others : PySem.W.findIn K (.ref a_IfRow) "others" = some none)
    (zc_WhileRow : PySem.W.nsIn K mainGlobals "WhileRow" = some (some (.ref a_WhileRow)))
    (zpg_WhileRow : PySem.W.plainGet K a_WhileRow Str.empty = true)
    (zhd_WhileRow : PySem.W.hasDictIn K a_WhileRow = true)
    (zpo_WhileRow : PySem.W.plainOver K a_WhileRow = true)
    (zsa_WhileRow : PySem.W.findIn K (.ref a_WhileRow) "__setattr__" = some (some (.builtin "object.__setattr__")))
    (zmk_WhileRow : PySem.W.makesIn K a_WhileRow = true)
    (zkc_WhileRow : PySem.W.keepIn K (.ref a_WhileRow) = true)
    (zna_WhileRow_atom : PySem.W.findIn K (.ref a_WhileRow) "atom" = some none)
    (zna_WhileRow_rows : PySem.W.findIn K (.ref a_WhileRow) "rows" = some none)
    (zc_Record : PySem.W.nsIn K mainGlobals "Record" = some (some (.ref a_Record)))
    (zpg_Record : PySem.W.plainGet K a_Record Str.empty = true)
    (zhd_Record : PySem.W.hasDictIn K a_Record = true)
    (zpo_Record : PySem.W.plainOver K a_Record = true)
    (zsa_Record : PySem.W.findIn K (.ref a_Record) "__setattr__" = some (some (.builtin "object.__setattr__")))
    (zmk_Record : PySem.W.makesIn K a_Record = true)
    (zkc_Record : PySem.W.keepIn K (.ref a_Record) = true)
    (zna_Record_name : PySem.W.findIn K (.ref a_Record) "name" = some none)
    (zna_Record_fields : PySem.W.findIn K (.ref a_Record) "fields" = some none)
    (zc_Helper : PySem.W.nsIn K mainGlobals "Helper" = some (some (.ref a_Helper)))
    (zpg_Helper : PySem.W.plainGet K a_Helper Str.empty = true)
    (zhd_Helper : PySem.W.hasDictIn K a_Helper = true)
    (zpo_Helper : PySem.W.plainOver K a_Helper = true)
    (zsa_Helper : PySem.W.findIn K (.ref a_Helper) "__setattr__" = some (some (.builtin "object.__setattr__")))
    (zmk_Helper : PySem.W.makesIn K a_Helper = true)
    (zkc_Helper : PySem.W.keepIn K (.ref a_Helper) = true)
    (zna_Helper_name : PySem.W.findIn K (.ref a_Helper) "name" = some none)
    (zna_Helper_params : PySem.W.findIn K (.ref a_Helper) "params" = some none)
    (zna_Helper_gives : PySem.W.findIn K (.ref a_Helper) "gives" = some none)
    (zna_Helper_rows : PySem.W.findIn K (.ref a_Helper) "rows" = some none)
    (zc_Program : PySem.W.nsIn K mainGlobals "Program" = some (some (.ref a_Program)))
    (zpg_Program : PySem.W.plainGet K a_Program Str.empty = true)
    (zhd_Program : PySem.W.hasDictIn K a_Program = true)
    (zpo_Program : PySem.W.plainOver K a_Program = true)
    (zsa_Program : PySem.W.findIn K (.ref a_Program) "__setattr__" = some (some (.builtin "object.__setattr__")))
    (zmk_Program : PySem.W.makesIn K a_Program = true)
    (zkc_Program : PySem.W.keepIn K (.ref a_Program) = true)
    (zna_Program_records : PySem.W.findIn K (.ref a_Program) "records" = some none)
    (zna_Program_helpers : PySem.W.findIn K (.ref a_Program) "helpers" = some none)
    (zc_Row : PySem.W.nsIn K mainGlobals "Row" = some (some (.ref a_Row)))
    (zpg_Row : PySem.W.plainGet K a_Row Str.empty = true)
    (zhd_Row : PySem.W.hasDictIn K a_Row = true)
    (zpo_Row : PySem.W.plainOver K a_Row = true)
    (zsa_Row : PySem.W.findIn K (.ref a_Row) "__setattr__" = some (some (.builtin "object.__setattr__")))
    (zisi : isiB K [a_SetRow, a_MakeRow, a_NoneRow, a_GiveRow, a_TakeRow, a_FillRow, a_SwapRow, a_GetRow, a_PutRow, a_HasRow, a_DropRow, a_LendRow, a_StepRow, a_CallRow, a_BackRow, a_AskRow, a_TellRow, a_IfRow, a_WhileRow] a_Row = true)
    (za_shown : PySem.W.nsIn K mainGlobals "shown" = some (some (.ref f_shown)))
    (zl_shown : K.lookup f_shown = some ⟨oc_shown, od_shown, .func (PySem.W.fnOf "shown" "shown" (defArgs s_shown) (defBody s_shown) (defScope s_shown) .none kV_shown dc_shown pm_shown an_shown cd_shown ct_shown), sl_shown⟩)
    (zd_shown : PySem.W.codeIn K cd_shown "shown" = true)
    (zk_shown : PySem.W.keepIn K (.ref f_shown) = true)
    (zm_NoneRow_head : PySem.W.findIn K (.ref a_NoneRow) "head" = some (some (.ref f_Row_head)))
    (zm_GiveRow_head : PySem.W.findIn K (.ref a_GiveRow) "head" = some (some (.ref f_Row_head)))
    (zm_TakeRow_head : PySem.W.findIn K (.ref a_TakeRow) "head" = some (some (.ref f_Row_head)))
    (zm_FillRow_head : PySem.W.findIn K (.ref a_FillRow) "head" = some (some (.ref f_Row_head)))
    (zm_SwapRow_head : PySem.W.findIn K (.ref a_SwapRow) "head" = some (some (.ref f_Row_head)))
    (zm_GetRow_head : PySem.W.findIn K (.ref a_GetRow) "head" = some (some (.ref f_Row_head)))
    (zm_PutRow_head : PySem.W.findIn K (.ref a_PutRow) "head" = some (some (.ref f_Row_head)))
    (zm_DropRow_head : PySem.W.findIn K (.ref a_DropRow) "head" = some (some (.ref f_Row_head)))
    (zm_LendRow_head : PySem.W.findIn K (.ref a_LendRow) "head" = some (some (.ref f_Row_head)))
    (zm_StepRow_head : PySem.W.findIn K (.ref a_StepRow) "head" = some (some (.ref f_Row_head)))
    (zm_BackRow_head : PySem.W.findIn K (.ref a_BackRow) "head" = some (some (.ref f_Row_head)))
    (zm_AskRow_head : PySem.W.findIn K (.ref a_AskRow) "head" = some (some (.ref f_Row_head)))
    (zm_TellRow_head : PySem.W.findIn K (.ref a_TellRow) "head" = some (some (.ref f_Row_head)))
    (zi_Row_head : PySem.W.isFn K (.ref f_Row_head) = true)
    (zl_Row_head : K.lookup f_Row_head = some ⟨oc_Row_head, od_Row_head, .func (PySem.W.fnOf "head" "Row.head" (defArgs s_Row_head) (defBody s_Row_head) (defScope s_Row_head) .none kV_Row_head dc_Row_head pm_Row_head an_Row_head cd_Row_head ct_Row_head), sl_Row_head⟩)
    (zd_Row_head : PySem.W.codeIn K cd_Row_head "Row.head" = true)
    (zk_Row_head : PySem.W.keepIn K (.ref f_Row_head) = true)
    (za_SetRow_init : PySem.W.findIn K (.ref a_SetRow) "__init__" = some (some (.ref f_SetRow_init)))
    (zi_SetRow_init : PySem.W.isFn K (.ref f_SetRow_init) = true)
    (zl_SetRow_init : K.lookup f_SetRow_init = some ⟨oc_SetRow_init, od_SetRow_init, .func (PySem.W.fnOf "__init__" "SetRow.__init__" (defArgs s_SetRow_init) (defBody s_SetRow_init) (defScope s_SetRow_init) .none kV_SetRow_init dc_SetRow_init pm_SetRow_init an_SetRow_init cd_SetRow_init ct_SetRow_init), sl_SetRow_init⟩)
    (zd_SetRow_init : PySem.W.codeIn K cd_SetRow_init "SetRow.__init__" = true)
    (zk_SetRow_init : PySem.W.keepIn K (.ref f_SetRow_init) = true)
    (zm_SetRow_told : PySem.W.findIn K (.ref a_SetRow) "told" = some (some (.ref f_SetRow_told)))
    (zi_SetRow_told : PySem.W.isFn K (.ref f_SetRow_told) = true)
    (zl_SetRow_told : K.lookup f_SetRow_told = some ⟨oc_SetRow_told, od_SetRow_told, .func (PySem.W.fnOf "told" "SetRow.told" (defArgs s_SetRow_told) (defBody s_SetRow_told) (defScope s_SetRow_told) .none kV_SetRow_told dc_SetRow_told pm_SetRow_told an_SetRow_told cd_SetRow_told ct_SetRow_told), sl_SetRow_told⟩)
    (zd_SetRow_told : PySem.W.codeIn K cd_SetRow_told "SetRow.told" = true)
    (zk_SetRow_told : PySem.W.keepIn K (.ref f_SetRow_told) = true)
    (za_MakeRow_init : PySem.W.findIn K (.ref a_MakeRow) "__init__" = some (some (.ref f_MakeRow_init)))
    (zi_MakeRow_init : PySem.W.isFn K (.ref f_MakeRow_init) = true)
    (zl_MakeRow_init : K.lookup f_MakeRow_init = some ⟨oc_MakeRow_init, od_MakeRow_init, .func (PySem.W.fnOf "__init__" "MakeRow.__init__" (defArgs s_MakeRow_init) (defBody s_MakeRow_init) (defScope s_MakeRow_init) .none kV_MakeRow_init dc_MakeRow_init pm_MakeRow_init an_MakeRow_init cd_MakeRow_init ct_MakeRow_init), sl_MakeRow_init⟩)
    (zd_MakeRow_init : PySem.W.codeIn K cd_MakeRow_init "MakeRow.__init__" = true)
    (zk_MakeRow_init : PySem.W.keepIn K (.ref f_MakeRow_init) = true)
    (zm_MakeRow_told : PySem.W.findIn K (.ref a_MakeRow) "told" = some (some (.ref f_MakeRow_told)))
    (zi_MakeRow_told : PySem.W.isFn K (.ref f_MakeRow_told) = true)
    (zl_MakeRow_told : K.lookup f_MakeRow_told = some ⟨oc_MakeRow_told, od_MakeRow_told, .func (PySem.W.fnOf "told" "MakeRow.told" (defArgs s_MakeRow_told) (defBody s_MakeRow_told) (defScope s_MakeRow_told) .none kV_MakeRow_told dc_MakeRow_told pm_MakeRow_told an_MakeRow_told cd_MakeRow_told ct_MakeRow_told), sl_MakeRow_told⟩)
    (zd_MakeRow_told : PySem.W.codeIn K cd_MakeRow_told "MakeRow.told" = true)
    (zk_MakeRow_told : PySem.W.keepIn K (.ref f_MakeRow_told) = true)
    (za_NoneRow_init : PySem.W.findIn K (.ref a_NoneRow) "__init__" = some (some (.ref f_NoneRow_init)))
    (zi_NoneRow_init : PySem.W.isFn K (.ref f_NoneRow_init) = true)
    (zl_NoneRow_init : K.lookup f_NoneRow_init = some ⟨oc_NoneRow_init, od_NoneRow_init, .func (PySem.W.fnOf "__init__" "NoneRow.__init__" (defArgs s_NoneRow_init) (defBody s_NoneRow_init) (defScope s_NoneRow_init) .none kV_NoneRow_init dc_NoneRow_init pm_NoneRow_init an_NoneRow_init cd_NoneRow_init ct_NoneRow_init), sl_NoneRow_init⟩)
    (zd_NoneRow_init : PySem.W.codeIn K cd_NoneRow_init "NoneRow.__init__" = true)
    (zk_NoneRow_init : PySem.W.keepIn K (.ref f_NoneRow_init) = true)
    (zm_NoneRow_told : PySem.W.findIn K (.ref a_NoneRow) "told" = some (some (.ref f_NoneRow_told)))
    (zi_NoneRow_told : PySem.W.isFn K (.ref f_NoneRow_told) = true)
    (zl_NoneRow_told : K.lookup f_NoneRow_told = some ⟨oc_NoneRow_told, od_NoneRow_told, .func (PySem.W.fnOf "told" "NoneRow.told" (defArgs s_NoneRow_told) (defBody s_NoneRow_told) (defScope s_NoneRow_told) .none kV_NoneRow_told dc_NoneRow_told pm_NoneRow_told an_NoneRow_told cd_NoneRow_told ct_NoneRow_told), sl_NoneRow_told⟩)
    (zd_NoneRow_told : PySem.W.codeIn K cd_NoneRow_told "NoneRow.told" = true)
    (zk_NoneRow_told : PySem.W.keepIn K (.ref f_NoneRow_told) = true)
    (za_GiveRow_init : PySem.W.findIn K (.ref a_GiveRow) "__init__" = some (some (.ref f_GiveRow_init)))
    (zi_GiveRow_init : PySem.W.isFn K (.ref f_GiveRow_init) = true)
    (zl_GiveRow_init : K.lookup f_GiveRow_init = some ⟨oc_GiveRow_init, od_GiveRow_init, .func (PySem.W.fnOf "__init__" "GiveRow.__init__" (defArgs s_GiveRow_init) (defBody s_GiveRow_init) (defScope s_GiveRow_init) .none kV_GiveRow_init dc_GiveRow_init pm_GiveRow_init an_GiveRow_init cd_GiveRow_init ct_GiveRow_init), sl_GiveRow_init⟩)
    (zd_GiveRow_init : PySem.W.codeIn K cd_GiveRow_init "GiveRow.__init__" = true)
    (zk_GiveRow_init : PySem.W.keepIn K (.ref f_GiveRow_init) = true)
    (zm_GiveRow_told : PySem.W.findIn K (.ref a_GiveRow) "told" = some (some (.ref f_GiveRow_told)))
    (zi_GiveRow_told : PySem.W.isFn K (.ref f_GiveRow_told) = true)
    (zl_GiveRow_told : K.lookup f_GiveRow_told = some ⟨oc_GiveRow_told, od_GiveRow_told, .func (PySem.W.fnOf "told" "GiveRow.told" (defArgs s_GiveRow_told) (defBody s_GiveRow_told) (defScope s_GiveRow_told) .none kV_GiveRow_told dc_GiveRow_told pm_GiveRow_told an_GiveRow_told cd_GiveRow_told ct_GiveRow_told), sl_GiveRow_told⟩)
    (zd_GiveRow_told : PySem.W.codeIn K cd_GiveRow_told "GiveRow.told" = true)
    (zk_GiveRow_told : PySem.W.keepIn K (.ref f_GiveRow_told) = true)
    (za_TakeRow_init : PySem.W.findIn K (.ref a_TakeRow) "__init__" = some (some (.ref f_TakeRow_init)))
    (zi_TakeRow_init : PySem.W.isFn K (.ref f_TakeRow_init) = true)
    (zl_TakeRow_init : K.lookup f_TakeRow_init = some ⟨oc_TakeRow_init, od_TakeRow_init, .func (PySem.W.fnOf "__init__" "TakeRow.__init__" (defArgs s_TakeRow_init) (defBody s_TakeRow_init) (defScope s_TakeRow_init) .none kV_TakeRow_init dc_TakeRow_init pm_TakeRow_init an_TakeRow_init cd_TakeRow_init ct_TakeRow_init), sl_TakeRow_init⟩)
    (zd_TakeRow_init : PySem.W.codeIn K cd_TakeRow_init "TakeRow.__init__" = true)
    (zk_TakeRow_init : PySem.W.keepIn K (.ref f_TakeRow_init) = true)
    (zm_TakeRow_told : PySem.W.findIn K (.ref a_TakeRow) "told" = some (some (.ref f_TakeRow_told)))
    (zi_TakeRow_told : PySem.W.isFn K (.ref f_TakeRow_told) = true)
    (zl_TakeRow_told : K.lookup f_TakeRow_told = some ⟨oc_TakeRow_told, od_TakeRow_told, .func (PySem.W.fnOf "told" "TakeRow.told" (defArgs s_TakeRow_told) (defBody s_TakeRow_told) (defScope s_TakeRow_told) .none kV_TakeRow_told dc_TakeRow_told pm_TakeRow_told an_TakeRow_told cd_TakeRow_told ct_TakeRow_told), sl_TakeRow_told⟩)
    (zd_TakeRow_told : PySem.W.codeIn K cd_TakeRow_told "TakeRow.told" = true)
    (zk_TakeRow_told : PySem.W.keepIn K (.ref f_TakeRow_told) = true)
    (za_FillRow_init : PySem.W.findIn K (.ref a_FillRow) "__init__" = some (some (.ref f_FillRow_init)))
    (zi_FillRow_init : PySem.W.isFn K (.ref f_FillRow_init) = true)
    (zl_FillRow_init : K.lookup f_FillRow_init = some ⟨oc_FillRow_init, od_FillRow_init, .func (PySem.W.fnOf "__init__" "FillRow.__init__" (defArgs s_FillRow_init) (defBody s_FillRow_init) (defScope s_FillRow_init) .none kV_FillRow_init dc_FillRow_init pm_FillRow_init an_FillRow_init cd_FillRow_init ct_FillRow_init), sl_FillRow_init⟩)
    (zd_FillRow_init : PySem.W.codeIn K cd_FillRow_init "FillRow.__init__" = true)
    (zk_FillRow_init : PySem.W.keepIn K (.ref f_FillRow_init) = true)
    (zm_FillRow_told : PySem.W.findIn K (.ref a_FillRow) "told" = some (some (.ref f_FillRow_told)))
    (zi_FillRow_told : PySem.W.isFn K (.ref f_FillRow_told) = true)
    (zl_FillRow_told : K.lookup f_FillRow_told = some ⟨oc_FillRow_told, od_FillRow_told, .func (PySem.W.fnOf "told" "FillRow.told" (defArgs s_FillRow_told) (defBody s_FillRow_told) (defScope s_FillRow_told) .none kV_FillRow_told dc_FillRow_told pm_FillRow_told an_FillRow_told cd_FillRow_told ct_FillRow_told), sl_FillRow_told⟩)
    (zd_FillRow_told : PySem.W.codeIn K cd_FillRow_told "FillRow.told" = true)
    (zk_FillRow_told : PySem.W.keepIn K (.ref f_FillRow_told) = true)
    (za_SwapRow_init : PySem.W.findIn K (.ref a_SwapRow) "__init__" = some (some (.ref f_SwapRow_init)))
    (zi_SwapRow_init : PySem.W.isFn K (.ref f_SwapRow_init) = true)
    (zl_SwapRow_init : K.lookup f_SwapRow_init = some ⟨oc_SwapRow_init, od_SwapRow_init, .func (PySem.W.fnOf "__init__" "SwapRow.__init__" (defArgs s_SwapRow_init) (defBody s_SwapRow_init) (defScope s_SwapRow_init) .none kV_SwapRow_init dc_SwapRow_init pm_SwapRow_init an_SwapRow_init cd_SwapRow_init ct_SwapRow_init), sl_SwapRow_init⟩)
    (zd_SwapRow_init : PySem.W.codeIn K cd_SwapRow_init "SwapRow.__init__" = true)
    (zk_SwapRow_init : PySem.W.keepIn K (.ref f_SwapRow_init) = true)
    (zm_SwapRow_told : PySem.W.findIn K (.ref a_SwapRow) "told" = some (some (.ref f_SwapRow_told)))
    (zi_SwapRow_told : PySem.W.isFn K (.ref f_SwapRow_told) = true)
    (zl_SwapRow_told : K.lookup f_SwapRow_told = some ⟨oc_SwapRow_told, od_SwapRow_told, .func (PySem.W.fnOf "told" "SwapRow.told" (defArgs s_SwapRow_told) (defBody s_SwapRow_told) (defScope s_SwapRow_told) .none kV_SwapRow_told dc_SwapRow_told pm_SwapRow_told an_SwapRow_told cd_SwapRow_told ct_SwapRow_told), sl_SwapRow_told⟩)
    (zd_SwapRow_told : PySem.W.codeIn K cd_SwapRow_told "SwapRow.told" = true)
    (zk_SwapRow_told : PySem.W.keepIn K (.ref f_SwapRow_told) = true)
    (za_GetRow_init : PySem.W.findIn K (.ref a_GetRow) "__init__" = some (some (.ref f_GetRow_init)))
    (zi_GetRow_init : PySem.W.isFn K (.ref f_GetRow_init) = true)
    (zl_GetRow_init : K.lookup f_GetRow_init = some ⟨oc_GetRow_init, od_GetRow_init, .func (PySem.W.fnOf "__init__" "GetRow.__init__" (defArgs s_GetRow_init) (defBody s_GetRow_init) (defScope s_GetRow_init) .none kV_GetRow_init dc_GetRow_init pm_GetRow_init an_GetRow_init cd_GetRow_init ct_GetRow_init), sl_GetRow_init⟩)
    (zd_GetRow_init : PySem.W.codeIn K cd_GetRow_init "GetRow.__init__" = true)
    (zk_GetRow_init : PySem.W.keepIn K (.ref f_GetRow_init) = true)
    (zm_GetRow_told : PySem.W.findIn K (.ref a_GetRow) "told" = some (some (.ref f_GetRow_told)))
    (zi_GetRow_told : PySem.W.isFn K (.ref f_GetRow_told) = true)
    (zl_GetRow_told : K.lookup f_GetRow_told = some ⟨oc_GetRow_told, od_GetRow_told, .func (PySem.W.fnOf "told" "GetRow.told" (defArgs s_GetRow_told) (defBody s_GetRow_told) (defScope s_GetRow_told) .none kV_GetRow_told dc_GetRow_told pm_GetRow_told an_GetRow_told cd_GetRow_told ct_GetRow_told), sl_GetRow_told⟩)
    (zd_GetRow_told : PySem.W.codeIn K cd_GetRow_told "GetRow.told" = true)
    (zk_GetRow_told : PySem.W.keepIn K (.ref f_GetRow_told) = true)
    (za_PutRow_init : PySem.W.findIn K (.ref a_PutRow) "__init__" = some (some (.ref f_PutRow_init)))
    (zi_PutRow_init : PySem.W.isFn K (.ref f_PutRow_init) = true)
    (zl_PutRow_init : K.lookup f_PutRow_init = some ⟨oc_PutRow_init, od_PutRow_init, .func (PySem.W.fnOf "__init__" "PutRow.__init__" (defArgs s_PutRow_init) (defBody s_PutRow_init) (defScope s_PutRow_init) .none kV_PutRow_init dc_PutRow_init pm_PutRow_init an_PutRow_init cd_PutRow_init ct_PutRow_init), sl_PutRow_init⟩)
    (zd_PutRow_init : PySem.W.codeIn K cd_PutRow_init "PutRow.__init__" = true)
    (zk_PutRow_init : PySem.W.keepIn K (.ref f_PutRow_init) = true)
    (zm_PutRow_told : PySem.W.findIn K (.ref a_PutRow) "told" = some (some (.ref f_PutRow_told)))
    (zi_PutRow_told : PySem.W.isFn K (.ref f_PutRow_told) = true)
    (zl_PutRow_told : K.lookup f_PutRow_told = some ⟨oc_PutRow_told, od_PutRow_told, .func (PySem.W.fnOf "told" "PutRow.told" (defArgs s_PutRow_told) (defBody s_PutRow_told) (defScope s_PutRow_told) .none kV_PutRow_told dc_PutRow_told pm_PutRow_told an_PutRow_told cd_PutRow_told ct_PutRow_told), sl_PutRow_told⟩)
    (zd_PutRow_told : PySem.W.codeIn K cd_PutRow_told "PutRow.told" = true)
    (zk_PutRow_told : PySem.W.keepIn K (.ref f_PutRow_told) = true)
    (za_HasRow_init : PySem.W.findIn K (.ref a_HasRow) "__init__" = some (some (.ref f_HasRow_init)))
    (zi_HasRow_init : PySem.W.isFn K (.ref f_HasRow_init) = true)
    (zl_HasRow_init : K.lookup f_HasRow_init = some ⟨oc_HasRow_init, od_HasRow_init, .func (PySem.W.fnOf "__init__" "HasRow.__init__" (defArgs s_HasRow_init) (defBody s_HasRow_init) (defScope s_HasRow_init) .none kV_HasRow_init dc_HasRow_init pm_HasRow_init an_HasRow_init cd_HasRow_init ct_HasRow_init), sl_HasRow_init⟩)
    (zd_HasRow_init : PySem.W.codeIn K cd_HasRow_init "HasRow.__init__" = true)
    (zk_HasRow_init : PySem.W.keepIn K (.ref f_HasRow_init) = true)
    (zm_HasRow_told : PySem.W.findIn K (.ref a_HasRow) "told" = some (some (.ref f_HasRow_told)))
    (zi_HasRow_told : PySem.W.isFn K (.ref f_HasRow_told) = true)
    (zl_HasRow_told : K.lookup f_HasRow_told = some ⟨oc_HasRow_told, od_HasRow_told, .func (PySem.W.fnOf "told" "HasRow.told" (defArgs s_HasRow_told) (defBody s_HasRow_told) (defScope s_HasRow_told) .none kV_HasRow_told dc_HasRow_told pm_HasRow_told an_HasRow_told cd_HasRow_told ct_HasRow_told), sl_HasRow_told⟩)
    (zd_HasRow_told : PySem.W.codeIn K cd_HasRow_told "HasRow.told" = true)
    (zk_HasRow_told : PySem.W.keepIn K (.ref f_HasRow_told) = true)
    (za_DropRow_init : PySem.W.findIn K (.ref a_DropRow) "__init__" = some (some (.ref f_DropRow_init)))
    (zi_DropRow_init : PySem.W.isFn K (.ref f_DropRow_init) = true)
    (zl_DropRow_init : K.lookup f_DropRow_init = some ⟨oc_DropRow_init, od_DropRow_init, .func (PySem.W.fnOf "__init__" "DropRow.__init__" (defArgs s_DropRow_init) (defBody s_DropRow_init) (defScope s_DropRow_init) .none kV_DropRow_init dc_DropRow_init pm_DropRow_init an_DropRow_init cd_DropRow_init ct_DropRow_init), sl_DropRow_init⟩)
    (zd_DropRow_init : PySem.W.codeIn K cd_DropRow_init "DropRow.__init__" = true)
    (zk_DropRow_init : PySem.W.keepIn K (.ref f_DropRow_init) = true)
    (zm_DropRow_told : PySem.W.findIn K (.ref a_DropRow) "told" = some (some (.ref f_DropRow_told)))
    (zi_DropRow_told : PySem.W.isFn K (.ref f_DropRow_told) = true)
    (zl_DropRow_told : K.lookup f_DropRow_told = some ⟨oc_DropRow_told, od_DropRow_told, .func (PySem.W.fnOf "told" "DropRow.told" (defArgs s_DropRow_told) (defBody s_DropRow_told) (defScope s_DropRow_told) .none kV_DropRow_told dc_DropRow_told pm_DropRow_told an_DropRow_told cd_DropRow_told ct_DropRow_told), sl_DropRow_told⟩)
    (zd_DropRow_told : PySem.W.codeIn K cd_DropRow_told "DropRow.told" = true)
    (zk_DropRow_told : PySem.W.keepIn K (.ref f_DropRow_told) = true)
    (za_LendRow_init : PySem.W.findIn K (.ref a_LendRow) "__init__" = some (some (.ref f_LendRow_init)))
    (zi_LendRow_init : PySem.W.isFn K (.ref f_LendRow_init) = true)
    (zl_LendRow_init : K.lookup f_LendRow_init = some ⟨oc_LendRow_init, od_LendRow_init, .func (PySem.W.fnOf "__init__" "LendRow.__init__" (defArgs s_LendRow_init) (defBody s_LendRow_init) (defScope s_LendRow_init) .none kV_LendRow_init dc_LendRow_init pm_LendRow_init an_LendRow_init cd_LendRow_init ct_LendRow_init), sl_LendRow_init⟩)
    (zd_LendRow_init : PySem.W.codeIn K cd_LendRow_init "LendRow.__init__" = true)
    (zk_LendRow_init : PySem.W.keepIn K (.ref f_LendRow_init) = true)
    (zm_LendRow_told : PySem.W.findIn K (.ref a_LendRow) "told" = some (some (.ref f_LendRow_told)))
    (zi_LendRow_told : PySem.W.isFn K (.ref f_LendRow_told) = true)
    (zl_LendRow_told : K.lookup f_LendRow_told = some ⟨oc_LendRow_told, od_LendRow_told, .func (PySem.W.fnOf "told" "LendRow.told" (defArgs s_LendRow_told) (defBody s_LendRow_told) (defScope s_LendRow_told) .none kV_LendRow_told dc_LendRow_told pm_LendRow_told an_LendRow_told cd_LendRow_told ct_LendRow_told), sl_LendRow_told⟩)
    (zd_LendRow_told : PySem.W.codeIn K cd_LendRow_told "LendRow.told" = true)
    (zk_LendRow_told : PySem.W.keepIn K (.ref f_LendRow_told) = true)
    (za_StepRow_init : PySem.W.findIn K (.ref a_StepRow) "__init__" = some (some (.ref f_StepRow_init)))
    (zi_StepRow_init : PySem.W.isFn K (.ref f_StepRow_init) = true)
    (zl_StepRow_init : K.lookup f_StepRow_init = some ⟨oc_StepRow_init, od_StepRow_init, .func (PySem.W.fnOf "__init__" "StepRow.__init__" (defArgs s_StepRow_init) (defBody s_StepRow_init) (defScope s_StepRow_init) .none kV_StepRow_init dc_StepRow_init pm_StepRow_init an_StepRow_init cd_StepRow_init ct_StepRow_init), sl_StepRow_init⟩)
    (zd_StepRow_init : PySem.W.codeIn K cd_StepRow_init "StepRow.__init__" = true)
    (zk_StepRow_init : PySem.W.keepIn K (.ref f_StepRow_init) = true)
    (zm_StepRow_told : PySem.W.findIn K (.ref a_StepRow) "told" = some (some (.ref f_StepRow_told)))
    (zi_StepRow_told : PySem.W.isFn K (.ref f_StepRow_told) = true)
    (zl_StepRow_told : K.lookup f_StepRow_told = some ⟨oc_StepRow_told, od_StepRow_told, .func (PySem.W.fnOf "told" "StepRow.told" (defArgs s_StepRow_told) (defBody s_StepRow_told) (defScope s_StepRow_told) .none kV_StepRow_told dc_StepRow_told pm_StepRow_told an_StepRow_told cd_StepRow_told ct_StepRow_told), sl_StepRow_told⟩)
    (zd_StepRow_told : PySem.W.codeIn K cd_StepRow_told "StepRow.told" = true)
    (zk_StepRow_told : PySem.W.keepIn K (.ref f_StepRow_told) = true)
    (za_CallRow_init : PySem.W.findIn K (.ref a_CallRow) "__init__" = some (some (.ref f_CallRow_init)))
    (zi_CallRow_init : PySem.W.isFn K (.ref f_CallRow_init) = true)
    (zl_CallRow_init : K.lookup f_CallRow_init = some ⟨oc_CallRow_init, od_CallRow_init, .func (PySem.W.fnOf "__init__" "CallRow.__init__" (defArgs s_CallRow_init) (defBody s_CallRow_init) (defScope s_CallRow_init) .none kV_CallRow_init dc_CallRow_init pm_CallRow_init an_CallRow_init cd_CallRow_init ct_CallRow_init), sl_CallRow_init⟩)
    (zd_CallRow_init : PySem.W.codeIn K cd_CallRow_init "CallRow.__init__" = true)
    (zk_CallRow_init : PySem.W.keepIn K (.ref f_CallRow_init) = true)
    (zm_CallRow_told : PySem.W.findIn K (.ref a_CallRow) "told" = some (some (.ref f_CallRow_told)))
    (zi_CallRow_told : PySem.W.isFn K (.ref f_CallRow_told) = true)
    (zl_CallRow_told : K.lookup f_CallRow_told = some ⟨oc_CallRow_told, od_CallRow_told, .func (PySem.W.fnOf "told" "CallRow.told" (defArgs s_CallRow_told) (defBody s_CallRow_told) (defScope s_CallRow_told) .none kV_CallRow_told dc_CallRow_told pm_CallRow_told an_CallRow_told cd_CallRow_told ct_CallRow_told), sl_CallRow_told⟩)
    (zd_CallRow_told : PySem.W.codeIn K cd_CallRow_told "CallRow.told" = true)
    (zk_CallRow_told : PySem.W.keepIn K (.ref f_CallRow_told) = true)
    (za_BackRow_init : PySem.W.findIn K (.ref a_BackRow) "__init__" = some (some (.ref f_BackRow_init)))
    (zi_BackRow_init : PySem.W.isFn K (.ref f_BackRow_init) = true)
    (zl_BackRow_init : K.lookup f_BackRow_init = some ⟨oc_BackRow_init, od_BackRow_init, .func (PySem.W.fnOf "__init__" "BackRow.__init__" (defArgs s_BackRow_init) (defBody s_BackRow_init) (defScope s_BackRow_init) .none kV_BackRow_init dc_BackRow_init pm_BackRow_init an_BackRow_init cd_BackRow_init ct_BackRow_init), sl_BackRow_init⟩)
    (zd_BackRow_init : PySem.W.codeIn K cd_BackRow_init "BackRow.__init__" = true)
    (zk_BackRow_init : PySem.W.keepIn K (.ref f_BackRow_init) = true)
    (zm_BackRow_told : PySem.W.findIn K (.ref a_BackRow) "told" = some (some (.ref f_BackRow_told)))
    (zi_BackRow_told : PySem.W.isFn K (.ref f_BackRow_told) = true)
    (zl_BackRow_told : K.lookup f_BackRow_told = some ⟨oc_BackRow_told, od_BackRow_told, .func (PySem.W.fnOf "told" "BackRow.told" (defArgs s_BackRow_told) (defBody s_BackRow_told) (defScope s_BackRow_told) .none kV_BackRow_told dc_BackRow_told pm_BackRow_told an_BackRow_told cd_BackRow_told ct_BackRow_told), sl_BackRow_told⟩)
    (zd_BackRow_told : PySem.W.codeIn K cd_BackRow_told "BackRow.told" = true)
    (zk_BackRow_told : PySem.W.keepIn K (.ref f_BackRow_told) = true)
    (za_AskRow_init : PySem.W.findIn K (.ref a_AskRow) "__init__" = some (some (.ref f_AskRow_init)))
    (zi_AskRow_init : PySem.W.isFn K (.ref f_AskRow_init) = true)
    (zl_AskRow_init : K.lookup f_AskRow_init = some ⟨oc_AskRow_init, od_AskRow_init, .func (PySem.W.fnOf "__init__" "AskRow.__init__" (defArgs s_AskRow_init) (defBody s_AskRow_init) (defScope s_AskRow_init) .none kV_AskRow_init dc_AskRow_init pm_AskRow_init an_AskRow_init cd_AskRow_init ct_AskRow_init), sl_AskRow_init⟩)
    (zd_AskRow_init : PySem.W.codeIn K cd_AskRow_init "AskRow.__init__" = true)
    (zk_AskRow_init : PySem.W.keepIn K (.ref f_AskRow_init) = true)
    (zm_AskRow_told : PySem.W.findIn K (.ref a_AskRow) "told" = some (some (.ref f_AskRow_told)))
    (zi_AskRow_told : PySem.W.isFn K (.ref f_AskRow_told) = true)
    (zl_AskRow_told : K.lookup f_AskRow_told = some ⟨oc_AskRow_told, od_AskRow_told, .func (PySem.W.fnOf "told" "AskRow.told" (defArgs s_AskRow_told) (defBody s_AskRow_told) (defScope s_AskRow_told) .none kV_AskRow_told dc_AskRow_told pm_AskRow_told an_AskRow_told cd_AskRow_told ct_AskRow_told), sl_AskRow_told⟩)
    (zd_AskRow_told : PySem.W.codeIn K cd_AskRow_told "AskRow.told" = true)
    (zk_AskRow_told : PySem.W.keepIn K (.ref f_AskRow_told) = true)
    (za_TellRow_init : PySem.W.findIn K (.ref a_TellRow) "__init__" = some (some (.ref f_TellRow_init)))
    (zi_TellRow_init : PySem.W.isFn K (.ref f_TellRow_init) = true)
    (zl_TellRow_init : K.lookup f_TellRow_init = some ⟨oc_TellRow_init, od_TellRow_init, .func (PySem.W.fnOf "__init__" "TellRow.__init__" (defArgs s_TellRow_init) (defBody s_TellRow_init) (defScope s_TellRow_init) .none kV_TellRow_init dc_TellRow_init pm_TellRow_init an_TellRow_init cd_TellRow_init ct_TellRow_init), sl_TellRow_init⟩)
    (zd_TellRow_init : PySem.W.codeIn K cd_TellRow_init "TellRow.__init__" = true)
    (zk_TellRow_init : PySem.W.keepIn K (.ref f_TellRow_init) = true)
    (zm_TellRow_told : PySem.W.findIn K (.ref a_TellRow) "told" = some (some (.ref f_TellRow_told)))
    (zi_TellRow_told : PySem.W.isFn K (.ref f_TellRow_told) = true)
    (zl_TellRow_told : K.lookup f_TellRow_told = some ⟨oc_TellRow_told, od_TellRow_told, .func (PySem.W.fnOf "told" "TellRow.told" (defArgs s_TellRow_told) (defBody s_TellRow_told) (defScope s_TellRow_told) .none kV_TellRow_told dc_TellRow_told pm_TellRow_told an_TellRow_told cd_TellRow_told ct_TellRow_told), sl_TellRow_told⟩)
    (zd_TellRow_told : PySem.W.codeIn K cd_TellRow_told "TellRow.told" = true)
    (zk_TellRow_told : PySem.W.keepIn K (.ref f_TellRow_told) = true)
    (za_IfRow_init : PySem.W.findIn K (.ref a_IfRow) "__init__" = some (some (.ref f_IfRow_init)))
    (zi_IfRow_init : PySem.W.isFn K (.ref f_IfRow_init) = true)
    (zl_IfRow_init : K.lookup f_IfRow_init = some ⟨oc_IfRow_init, od_IfRow_init, .func (PySem.W.fnOf "__init__" "IfRow.__init__" (defArgs s_IfRow_init) (defBody s_IfRow_init) (defScope s_IfRow_init) .none kV_IfRow_init dc_IfRow_init pm_IfRow_init an_IfRow_init cd_IfRow_init ct_IfRow_init), sl_IfRow_init⟩)
    (zd_IfRow_init : PySem.W.codeIn K cd_IfRow_init "IfRow.__init__" = true)
    (zk_IfRow_init : PySem.W.keepIn K (.ref f_IfRow_init) = true)
    (zm_IfRow_told : PySem.W.findIn K (.ref a_IfRow) "told" = some (some (.ref f_IfRow_told)))
    (zi_IfRow_told : PySem.W.isFn K (.ref f_IfRow_told) = true)
    (zl_IfRow_told : K.lookup f_IfRow_told = some ⟨oc_IfRow_told, od_IfRow_told, .func (PySem.W.fnOf "told" "IfRow.told" (defArgs s_IfRow_told) (defBody s_IfRow_told) (defScope s_IfRow_told) .none kV_IfRow_told dc_IfRow_told pm_IfRow_told an_IfRow_told cd_IfRow_told ct_IfRow_told), sl_IfRow_told⟩)
    (zd_IfRow_told : PySem.W.codeIn K cd_IfRow_told "IfRow.told" = true)
    (zk_IfRow_told : PySem.W.keepIn K (.ref f_IfRow_told) = true)
    (za_WhileRow_init : PySem.W.findIn K (.ref a_WhileRow) "__init__" = some (some (.ref f_WhileRow_init)))
    (zi_WhileRow_init : PySem.W.isFn K (.ref f_WhileRow_init) = true)
    (zl_WhileRow_init : K.lookup f_WhileRow_init = some ⟨oc_WhileRow_init, od_WhileRow_init, .func (PySem.W.fnOf "__init__" "WhileRow.__init__" (defArgs s_WhileRow_init) (defBody s_WhileRow_init) (defScope s_WhileRow_init) .none kV_WhileRow_init dc_WhileRow_init pm_WhileRow_init an_WhileRow_init cd_WhileRow_init ct_WhileRow_init), sl_WhileRow_init⟩)
    (zd_WhileRow_init : PySem.W.codeIn K cd_WhileRow_init "WhileRow.__init__" = true)
    (zk_WhileRow_init : PySem.W.keepIn K (.ref f_WhileRow_init) = true)
    (zm_WhileRow_told : PySem.W.findIn K (.ref a_WhileRow) "told" = some (some (.ref f_WhileRow_told)))
    (zi_WhileRow_told : PySem.W.isFn K (.ref f_WhileRow_told) = true)
    (zl_WhileRow_told : K.lookup f_WhileRow_told = some ⟨oc_WhileRow_told, od_WhileRow_told, .func (PySem.W.fnOf "told" "WhileRow.told" (defArgs s_WhileRow_told) (defBody s_WhileRow_told) (defScope s_WhileRow_told) .none kV_WhileRow_told dc_WhileRow_told pm_WhileRow_told an_WhileRow_told cd_WhileRow_told ct_WhileRow_told), sl_WhileRow_told⟩)
    (zd_WhileRow_told : PySem.W.codeIn K cd_WhileRow_told "WhileRow.told" = true)
    (zk_WhileRow_told : PySem.W.keepIn K (.ref f_WhileRow_told) = true)
    (za_Record_init : PySem.W.findIn K (.ref a_Record) "__init__" = some (some (.ref f_Record_init)))
    (zi_Record_init : PySem.W.isFn K (.ref f_Record_init) = true)
    (zl_Record_init : K.lookup f_Record_init = some ⟨oc_Record_init, od_Record_init, .func (PySem.W.fnOf "__init__" "Record.__init__" (defArgs s_Record_init) (defBody s_Record_init) (defScope s_Record_init) .none kV_Record_init dc_Record_init pm_Record_init an_Record_init cd_Record_init ct_Record_init), sl_Record_init⟩)
    (zd_Record_init : PySem.W.codeIn K cd_Record_init "Record.__init__" = true)
    (zk_Record_init : PySem.W.keepIn K (.ref f_Record_init) = true)
    (zm_Record_told : PySem.W.findIn K (.ref a_Record) "told" = some (some (.ref f_Record_told)))
    (zi_Record_told : PySem.W.isFn K (.ref f_Record_told) = true)
    (zl_Record_told : K.lookup f_Record_told = some ⟨oc_Record_told, od_Record_told, .func (PySem.W.fnOf "told" "Record.told" (defArgs s_Record_told) (defBody s_Record_told) (defScope s_Record_told) .none kV_Record_told dc_Record_told pm_Record_told an_Record_told cd_Record_told ct_Record_told), sl_Record_told⟩)
    (zd_Record_told : PySem.W.codeIn K cd_Record_told "Record.told" = true)
    (zk_Record_told : PySem.W.keepIn K (.ref f_Record_told) = true)
    (za_Helper_init : PySem.W.findIn K (.ref a_Helper) "__init__" = some (some (.ref f_Helper_init)))
    (zi_Helper_init : PySem.W.isFn K (.ref f_Helper_init) = true)
    (zl_Helper_init : K.lookup f_Helper_init = some ⟨oc_Helper_init, od_Helper_init, .func (PySem.W.fnOf "__init__" "Helper.__init__" (defArgs s_Helper_init) (defBody s_Helper_init) (defScope s_Helper_init) .none kV_Helper_init dc_Helper_init pm_Helper_init an_Helper_init cd_Helper_init ct_Helper_init), sl_Helper_init⟩)
    (zd_Helper_init : PySem.W.codeIn K cd_Helper_init "Helper.__init__" = true)
    (zk_Helper_init : PySem.W.keepIn K (.ref f_Helper_init) = true)
    (zm_Helper_told : PySem.W.findIn K (.ref a_Helper) "told" = some (some (.ref f_Helper_told)))
    (zi_Helper_told : PySem.W.isFn K (.ref f_Helper_told) = true)
    (zl_Helper_told : K.lookup f_Helper_told = some ⟨oc_Helper_told, od_Helper_told, .func (PySem.W.fnOf "told" "Helper.told" (defArgs s_Helper_told) (defBody s_Helper_told) (defScope s_Helper_told) .none kV_Helper_told dc_Helper_told pm_Helper_told an_Helper_told cd_Helper_told ct_Helper_told), sl_Helper_told⟩)
    (zd_Helper_told : PySem.W.codeIn K cd_Helper_told "Helper.told" = true)
    (zk_Helper_told : PySem.W.keepIn K (.ref f_Helper_told) = true)
    (za_Program_init : PySem.W.findIn K (.ref a_Program) "__init__" = some (some (.ref f_Program_init)))
    (zi_Program_init : PySem.W.isFn K (.ref f_Program_init) = true)
    (zl_Program_init : K.lookup f_Program_init = some ⟨oc_Program_init, od_Program_init, .func (PySem.W.fnOf "__init__" "Program.__init__" (defArgs s_Program_init) (defBody s_Program_init) (defScope s_Program_init) .none kV_Program_init dc_Program_init pm_Program_init an_Program_init cd_Program_init ct_Program_init), sl_Program_init⟩)
    (zd_Program_init : PySem.W.codeIn K cd_Program_init "Program.__init__" = true)
    (zk_Program_init : PySem.W.keepIn K (.ref f_Program_init) = true)
    (zm_Program_told : PySem.W.findIn K (.ref a_Program) "told" = some (some (.ref f_Program_told)))
    (zi_Program_told : PySem.W.isFn K (.ref f_Program_told) = true)
    (zl_Program_told : K.lookup f_Program_told = some ⟨oc_Program_told, od_Program_told, .func (PySem.W.fnOf "told" "Program.told" (defArgs s_Program_told) (defBody s_Program_told) (defScope s_Program_told) .none kV_Program_told dc_Program_told pm_Program_told an_Program_told cd_Program_told ct_Program_told), sl_Program_told⟩)
    (zd_Program_told : PySem.W.codeIn K cd_Program_told "Program.told" = true)
    (zk_Program_told : PySem.W.keepIn K (.ref f_Program_told) = true)
    (zm_SetRow_head : PySem.W.findIn K (.ref a_SetRow) "head" = some (some (.ref f_SetRow_head)))
    (zi_SetRow_head : PySem.W.isFn K (.ref f_SetRow_head) = true)
    (zl_SetRow_head : K.lookup f_SetRow_head = some ⟨oc_SetRow_head, od_SetRow_head, .func (PySem.W.fnOf "head" "SetRow.head" (defArgs s_SetRow_head) (defBody s_SetRow_head) (defScope s_SetRow_head) .none kV_SetRow_head dc_SetRow_head pm_SetRow_head an_SetRow_head cd_SetRow_head ct_SetRow_head), sl_SetRow_head⟩)
    (zd_SetRow_head : PySem.W.codeIn K cd_SetRow_head "SetRow.head" = true)
    (zk_SetRow_head : PySem.W.keepIn K (.ref f_SetRow_head) = true)
    (zm_MakeRow_head : PySem.W.findIn K (.ref a_MakeRow) "head" = some (some (.ref f_MakeRow_head)))
    (zi_MakeRow_head : PySem.W.isFn K (.ref f_MakeRow_head) = true)
    (zl_MakeRow_head : K.lookup f_MakeRow_head = some ⟨oc_MakeRow_head, od_MakeRow_head, .func (PySem.W.fnOf "head" "MakeRow.head" (defArgs s_MakeRow_head) (defBody s_MakeRow_head) (defScope s_MakeRow_head) .none kV_MakeRow_head dc_MakeRow_head pm_MakeRow_head an_MakeRow_head cd_MakeRow_head ct_MakeRow_head), sl_MakeRow_head⟩)
    (zd_MakeRow_head : PySem.W.codeIn K cd_MakeRow_head "MakeRow.head" = true)
    (zk_MakeRow_head : PySem.W.keepIn K (.ref f_MakeRow_head) = true)
    (zm_HasRow_head : PySem.W.findIn K (.ref a_HasRow) "head" = some (some (.ref f_HasRow_head)))
    (zi_HasRow_head : PySem.W.isFn K (.ref f_HasRow_head) = true)
    (zl_HasRow_head : K.lookup f_HasRow_head = some ⟨oc_HasRow_head, od_HasRow_head, .func (PySem.W.fnOf "head" "HasRow.head" (defArgs s_HasRow_head) (defBody s_HasRow_head) (defScope s_HasRow_head) .none kV_HasRow_head dc_HasRow_head pm_HasRow_head an_HasRow_head cd_HasRow_head ct_HasRow_head), sl_HasRow_head⟩)
    (zd_HasRow_head : PySem.W.codeIn K cd_HasRow_head "HasRow.head" = true)
    (zk_HasRow_head : PySem.W.keepIn K (.ref f_HasRow_head) = true)
    (zm_CallRow_head : PySem.W.findIn K (.ref a_CallRow) "head" = some (some (.ref f_CallRow_head)))
    (zi_CallRow_head : PySem.W.isFn K (.ref f_CallRow_head) = true)
    (zl_CallRow_head : K.lookup f_CallRow_head = some ⟨oc_CallRow_head, od_CallRow_head, .func (PySem.W.fnOf "head" "CallRow.head" (defArgs s_CallRow_head) (defBody s_CallRow_head) (defScope s_CallRow_head) .none kV_CallRow_head dc_CallRow_head pm_CallRow_head an_CallRow_head cd_CallRow_head ct_CallRow_head), sl_CallRow_head⟩)
    (zd_CallRow_head : PySem.W.codeIn K cd_CallRow_head "CallRow.head" = true)
    (zk_CallRow_head : PySem.W.keepIn K (.ref f_CallRow_head) = true)
    (zm_IfRow_head : PySem.W.findIn K (.ref a_IfRow) "head" = some (some (.ref f_IfRow_head)))
    (zi_IfRow_head : PySem.W.isFn K (.ref f_IfRow_head) = true)
    (zl_IfRow_head : K.lookup f_IfRow_head = some ⟨oc_IfRow_head, od_IfRow_head, .func (PySem.W.fnOf "head" "IfRow.head" (defArgs s_IfRow_head) (defBody s_IfRow_head) (defScope s_IfRow_head) .none kV_IfRow_head dc_IfRow_head pm_IfRow_head an_IfRow_head cd_IfRow_head ct_IfRow_head), sl_IfRow_head⟩)
    (zd_IfRow_head : PySem.W.codeIn K cd_IfRow_head "IfRow.head" = true)
    (zk_IfRow_head : PySem.W.keepIn K (.ref f_IfRow_head) = true)
    (zm_WhileRow_head : PySem.W.findIn K (.ref a_WhileRow) "head" = some (some (.ref f_WhileRow_head)))
    (zi_WhileRow_head : PySem.W.isFn K (.ref f_WhileRow_head) = true)
    (zl_WhileRow_head : K.lookup f_WhileRow_head = some ⟨oc_WhileRow_head, od_WhileRow_head, .func (PySem.W.fnOf "head" "WhileRow.head" (defArgs s_WhileRow_head) (defBody s_WhileRow_head) (defScope s_WhileRow_head) .none kV_WhileRow_head dc_WhileRow_head pm_WhileRow_head an_WhileRow_head cd_WhileRow_head ct_WhileRow_head), sl_WhileRow_head⟩)
    (zd_WhileRow_head : PySem.W.codeIn K cd_WhileRow_head "WhileRow.head" = true)
    (zk_WhileRow_head : PySem.W.keepIn K (.ref f_WhileRow_head) = true)
    (za_all_told : PySem.W.nsIn K mainGlobals "all_told" = some (some (.ref f_all_told)))
    (zl_all_told : K.lookup f_all_told = some ⟨oc_all_told, od_all_told, .func (PySem.W.fnOf "all_told" "all_told" (defArgs s_all_told) (defBody s_all_told) (defScope s_all_told) .none kV_all_told dc_all_told pm_all_told an_all_told cd_all_told ct_all_told), sl_all_told⟩)
    (zd_all_told : PySem.W.codeIn K cd_all_told "all_told" = true)
    (zk_all_told : PySem.W.keepIn K (.ref f_all_told) = true)
    (za_rows_written : PySem.W.nsIn K mainGlobals "rows_written" = some (some (.ref f_rows_written)))
    (zl_rows_written : K.lookup f_rows_written = some ⟨oc_rows_written, od_rows_written, .func (PySem.W.fnOf "rows_written" "rows_written" (defArgs s_rows_written) (defBody s_rows_written) (defScope s_rows_written) .none kV_rows_written dc_rows_written pm_rows_written an_rows_written cd_rows_written ct_rows_written), sl_rows_written⟩)
    (zd_rows_written : PySem.W.codeIn K cd_rows_written "rows_written" = true)
    (zk_rows_written : PySem.W.keepIn K (.ref f_rows_written) = true)
    (za_record_written : PySem.W.nsIn K mainGlobals "record_written" = some (some (.ref f_record_written)))
    (zl_record_written : K.lookup f_record_written = some ⟨oc_record_written, od_record_written, .func (PySem.W.fnOf "record_written" "record_written" (defArgs s_record_written) (defBody s_record_written) (defScope s_record_written) .none kV_record_written dc_record_written pm_record_written an_record_written cd_record_written ct_record_written), sl_record_written⟩)
    (zd_record_written : PySem.W.codeIn K cd_record_written "record_written" = true)
    (zk_record_written : PySem.W.keepIn K (.ref f_record_written) = true)
    (za_param_written : PySem.W.nsIn K mainGlobals "param_written" = some (some (.ref f_param_written)))
    (zl_param_written : K.lookup f_param_written = some ⟨oc_param_written, od_param_written, .func (PySem.W.fnOf "param_written" "param_written" (defArgs s_param_written) (defBody s_param_written) (defScope s_param_written) .none kV_param_written dc_param_written pm_param_written an_param_written cd_param_written ct_param_written), sl_param_written⟩)
    (zd_param_written : PySem.W.codeIn K cd_param_written "param_written" = true)
    (zk_param_written : PySem.W.keepIn K (.ref f_param_written) = true)
    (za_helper_written : PySem.W.nsIn K mainGlobals "helper_written" = some (some (.ref f_helper_written)))
    (zl_helper_written : K.lookup f_helper_written = some ⟨oc_helper_written, od_helper_written, .func (PySem.W.fnOf "helper_written" "helper_written" (defArgs s_helper_written) (defBody s_helper_written) (defScope s_helper_written) .none kV_helper_written dc_helper_written pm_helper_written an_helper_written cd_helper_written ct_helper_written), sl_helper_written⟩)
    (zd_helper_written : PySem.W.codeIn K cd_helper_written "helper_written" = true)
    (zk_helper_written : PySem.W.keepIn K (.ref f_helper_written) = true)
    (za_written : PySem.W.nsIn K mainGlobals "written" = some (some (.ref f_written)))
    (zl_written : K.lookup f_written = some ⟨oc_written, od_written, .func (PySem.W.fnOf "written" "written" (defArgs s_written) (defBody s_written) (defScope s_written) .none kV_written dc_written pm_written an_written cd_written ct_written), sl_written⟩)
    (zd_written : PySem.W.codeIn K cd_written "written" = true)
    (zk_written : PySem.W.keepIn K (.ref f_written) = true)
    (za_l_draw : PySem.W.nsIn K mainGlobals "_law_draw" = some (some (.ref f_l_draw)))
    (zl_l_draw : K.lookup f_l_draw = some ⟨oc_l_draw, od_l_draw, .func (PySem.W.fnOf "_law_draw" "_law_draw" (defArgs s_l_draw) (defBody s_l_draw) (defScope s_l_draw) .none kV_l_draw dc_l_draw pm_l_draw an_l_draw cd_l_draw ct_l_draw), sl_l_draw⟩)
    (zd_l_draw : PySem.W.codeIn K cd_l_draw "_law_draw" = true)
    (zk_l_draw : PySem.W.keepIn K (.ref f_l_draw) = true)
    (za_l_kept : PySem.W.nsIn K mainGlobals "_law_kept" = some (some (.ref f_l_kept)))
    (zl_l_kept : K.lookup f_l_kept = some ⟨oc_l_kept, od_l_kept, .func (PySem.W.fnOf "_law_kept" "_law_kept" (defArgs s_l_kept) (defBody s_l_kept) (defScope s_l_kept) .none kV_l_kept dc_l_kept pm_l_kept an_l_kept cd_l_kept ct_l_kept), sl_l_kept⟩)
    (zd_l_kept : PySem.W.codeIn K cd_l_kept "_law_kept" = true)
    (zk_l_kept : PySem.W.keepIn K (.ref f_l_kept) = true)
    (za_l_word : PySem.W.nsIn K mainGlobals "_law_word" = some (some (.ref f_l_word)))
    (zl_l_word : K.lookup f_l_word = some ⟨oc_l_word, od_l_word, .func (PySem.W.fnOf "_law_word" "_law_word" (defArgs s_l_word) (defBody s_l_word) (defScope s_l_word) .none kV_l_word dc_l_word pm_l_word an_l_word cd_l_word ct_l_word), sl_l_word⟩)
    (zd_l_word : PySem.W.codeIn K cd_l_word "_law_word" = true)
    (zk_l_word : PySem.W.keepIn K (.ref f_l_word) = true)
    (za_l_name : PySem.W.nsIn K mainGlobals "_law_name" = some (some (.ref f_l_name)))
    (zl_l_name : K.lookup f_l_name = some ⟨oc_l_name, od_l_name, .func (PySem.W.fnOf "_law_name" "_law_name" (defArgs s_l_name) (defBody s_l_name) (defScope s_l_name) .none kV_l_name dc_l_name pm_l_name an_l_name cd_l_name ct_l_name), sl_l_name⟩)
    (zd_l_name : PySem.W.codeIn K cd_l_name "_law_name" = true)
    (zk_l_name : PySem.W.keepIn K (.ref f_l_name) = true)
    (za_l_number : PySem.W.nsIn K mainGlobals "_law_number" = some (some (.ref f_l_number)))
    (zl_l_number : K.lookup f_l_number = some ⟨oc_l_number, od_l_number, .func (PySem.W.fnOf "_law_number" "_law_number" (defArgs s_l_number) (defBody s_l_number) (defScope s_l_number) .none kV_l_number dc_l_number pm_l_number an_l_number cd_l_number ct_l_number), sl_l_number⟩)
    (zd_l_number : PySem.W.codeIn K cd_l_number "_law_number" = true)
    (zk_l_number : PySem.W.keepIn K (.ref f_l_number) = true)
    (za_l_atom : PySem.W.nsIn K mainGlobals "_law_atom" = some (some (.ref f_l_atom)))
    (zl_l_atom : K.lookup f_l_atom = some ⟨oc_l_atom, od_l_atom, .func (PySem.W.fnOf "_law_atom" "_law_atom" (defArgs s_l_atom) (defBody s_l_atom) (defScope s_l_atom) .none kV_l_atom dc_l_atom pm_l_atom an_l_atom cd_l_atom ct_l_atom), sl_l_atom⟩)
    (zd_l_atom : PySem.W.codeIn K cd_l_atom "_law_atom" = true)
    (zk_l_atom : PySem.W.keepIn K (.ref f_l_atom) = true)
    (za_l_path : PySem.W.nsIn K mainGlobals "_law_path" = some (some (.ref f_l_path)))
    (zl_l_path : K.lookup f_l_path = some ⟨oc_l_path, od_l_path, .func (PySem.W.fnOf "_law_path" "_law_path" (defArgs s_l_path) (defBody s_l_path) (defScope s_l_path) .none kV_l_path dc_l_path pm_l_path an_l_path cd_l_path ct_l_path), sl_l_path⟩)
    (zd_l_path : PySem.W.codeIn K cd_l_path "_law_path" = true)
    (zk_l_path : PySem.W.keepIn K (.ref f_l_path) = true)
    (za_l_given : PySem.W.nsIn K mainGlobals "_law_given" = some (some (.ref f_l_given)))
    (zl_l_given : K.lookup f_l_given = some ⟨oc_l_given, od_l_given, .func (PySem.W.fnOf "_law_given" "_law_given" (defArgs s_l_given) (defBody s_l_given) (defScope s_l_given) .none kV_l_given dc_l_given pm_l_given an_l_given cd_l_given ct_l_given), sl_l_given⟩)
    (zd_l_given : PySem.W.codeIn K cd_l_given "_law_given" = true)
    (zk_l_given : PySem.W.keepIn K (.ref f_l_given) = true)
    (za_l_plain : PySem.W.nsIn K mainGlobals "_law_plain" = some (some (.ref f_l_plain)))
    (zl_l_plain : K.lookup f_l_plain = some ⟨oc_l_plain, od_l_plain, .func (PySem.W.fnOf "_law_plain" "_law_plain" (defArgs s_l_plain) (defBody s_l_plain) (defScope s_l_plain) .none kV_l_plain dc_l_plain pm_l_plain an_l_plain cd_l_plain ct_l_plain), sl_l_plain⟩)
    (zd_l_plain : PySem.W.codeIn K cd_l_plain "_law_plain" = true)
    (zk_l_plain : PySem.W.keepIn K (.ref f_l_plain) = true)
    (za_l_rows : PySem.W.nsIn K mainGlobals "_law_rows" = some (some (.ref f_l_rows)))
    (zl_l_rows : K.lookup f_l_rows = some ⟨oc_l_rows, od_l_rows, .func (PySem.W.fnOf "_law_rows" "_law_rows" (defArgs s_l_rows) (defBody s_l_rows) (defScope s_l_rows) .none kV_l_rows dc_l_rows pm_l_rows an_l_rows cd_l_rows ct_l_rows), sl_l_rows⟩)
    (zd_l_rows : PySem.W.codeIn K cd_l_rows "_law_rows" = true)
    (zk_l_rows : PySem.W.keepIn K (.ref f_l_rows) = true)
    (za_l_kind : PySem.W.nsIn K mainGlobals "_law_kind" = some (some (.ref f_l_kind)))
    (zl_l_kind : K.lookup f_l_kind = some ⟨oc_l_kind, od_l_kind, .func (PySem.W.fnOf "_law_kind" "_law_kind" (defArgs s_l_kind) (defBody s_l_kind) (defScope s_l_kind) .none kV_l_kind dc_l_kind pm_l_kind an_l_kind cd_l_kind ct_l_kind), sl_l_kind⟩)
    (zd_l_kind : PySem.W.codeIn K cd_l_kind "_law_kind" = true)
    (zk_l_kind : PySem.W.keepIn K (.ref f_l_kind) = true)
    (za_l_param : PySem.W.nsIn K mainGlobals "_law_param" = some (some (.ref f_l_param)))
    (zl_l_param : K.lookup f_l_param = some ⟨oc_l_param, od_l_param, .func (PySem.W.fnOf "_law_param" "_law_param" (defArgs s_l_param) (defBody s_l_param) (defScope s_l_param) .none kV_l_param dc_l_param pm_l_param an_l_param cd_l_param ct_l_param), sl_l_param⟩)
    (zd_l_param : PySem.W.codeIn K cd_l_param "_law_param" = true)
    (zk_l_param : PySem.W.keepIn K (.ref f_l_param) = true)
    (za_l_program : PySem.W.nsIn K mainGlobals "_law_program" = some (some (.ref f_l_program)))
    (zl_l_program : K.lookup f_l_program = some ⟨oc_l_program, od_l_program, .func (PySem.W.fnOf "_law_program" "_law_program" (defArgs s_l_program) (defBody s_l_program) (defScope s_l_program) .none kV_l_program dc_l_program pm_l_program an_l_program cd_l_program ct_l_program), sl_l_program⟩)
    (zd_l_program : PySem.W.codeIn K cd_l_program "_law_program" = true)
    (zk_l_program : PySem.W.keepIn K (.ref f_l_program) = true)
    (za_l_box_row : PySem.W.nsIn K mainGlobals "_law_box_row" = some (some (.ref f_l_box_row)))
    (zl_l_box_row : K.lookup f_l_box_row = some ⟨oc_l_box_row, od_l_box_row, .func (PySem.W.fnOf "_law_box_row" "_law_box_row" (defArgs s_l_box_row) (defBody s_l_box_row) (defScope s_l_box_row) .none kV_l_box_row dc_l_box_row pm_l_box_row an_l_box_row cd_l_box_row ct_l_box_row), sl_l_box_row⟩)
    (zd_l_box_row : PySem.W.codeIn K cd_l_box_row "_law_box_row" = true)
    (zk_l_box_row : PySem.W.keepIn K (.ref f_l_box_row) = true)
    (za_l_made : PySem.W.nsIn K mainGlobals "_law_made" = some (some (.ref f_l_made)))
    (zl_l_made : K.lookup f_l_made = some ⟨oc_l_made, od_l_made, .func (PySem.W.fnOf "_law_made" "_law_made" (defArgs s_l_made) (defBody s_l_made) (defScope s_l_made) .none kV_l_made dc_l_made pm_l_made an_l_made cd_l_made ct_l_made), sl_l_made⟩)
    (zd_l_made : PySem.W.codeIn K cd_l_made "_law_made" = true)
    (zk_l_made : PySem.W.keepIn K (.ref f_l_made) = true)
    (za_l_made_program : PySem.W.nsIn K mainGlobals "_law_made_program" = some (some (.ref f_l_made_program)))
    (zl_l_made_program : K.lookup f_l_made_program = some ⟨oc_l_made_program, od_l_made_program, .func (PySem.W.fnOf "_law_made_program" "_law_made_program" (defArgs s_l_made_program) (defBody s_l_made_program) (defScope s_l_made_program) .none kV_l_made_program dc_l_made_program pm_l_made_program an_l_made_program cd_l_made_program ct_l_made_program), sl_l_made_program⟩)
    (zd_l_made_program : PySem.W.codeIn K cd_l_made_program "_law_made_program" = true)
    (zk_l_made_program : PySem.W.keepIn K (.ref f_l_made_program) = true)
    (za_l_alike : PySem.W.nsIn K mainGlobals "_law_alike" = some (some (.ref f_l_alike)))
    (zl_l_alike : K.lookup f_l_alike = some ⟨oc_l_alike, od_l_alike, .func (PySem.W.fnOf "_law_alike" "_law_alike" (defArgs s_l_alike) (defBody s_l_alike) (defScope s_l_alike) .none kV_l_alike dc_l_alike pm_l_alike an_l_alike cd_l_alike ct_l_alike), sl_l_alike⟩)
    (zd_l_alike : PySem.W.codeIn K cd_l_alike "_law_alike" = true)
    (zk_l_alike : PySem.W.keepIn K (.ref f_l_alike) = true)
    (za_l_shown : PySem.W.nsIn K mainGlobals "_law_shown" = some (some (.ref f_l_shown)))
    (zl_l_shown : K.lookup f_l_shown = some ⟨oc_l_shown, od_l_shown, .func (PySem.W.fnOf "_law_shown" "_law_shown" (defArgs s_l_shown) (defBody s_l_shown) (defScope s_l_shown) .none kV_l_shown dc_l_shown pm_l_shown an_l_shown cd_l_shown ct_l_shown), sl_l_shown⟩)
    (zd_l_shown : PySem.W.codeIn K cd_l_shown "_law_shown" = true)
    (zk_l_shown : PySem.W.keepIn K (.ref f_l_shown) = true)
    (za_l_head : PySem.W.nsIn K mainGlobals "_law_head" = some (some (.ref f_l_head)))
    (zl_l_head : K.lookup f_l_head = some ⟨oc_l_head, od_l_head, .func (PySem.W.fnOf "_law_head" "_law_head" (defArgs s_l_head) (defBody s_l_head) (defScope s_l_head) .none kV_l_head dc_l_head pm_l_head an_l_head cd_l_head ct_l_head), sl_l_head⟩)
    (zd_l_head : PySem.W.codeIn K cd_l_head "_law_head" = true)
    (zk_l_head : PySem.W.keepIn K (.ref f_l_head) = true)
    (za_l_lines : PySem.W.nsIn K mainGlobals "_law_lines" = some (some (.ref f_l_lines)))
    (zl_l_lines : K.lookup f_l_lines = some ⟨oc_l_lines, od_l_lines, .func (PySem.W.fnOf "_law_lines" "_law_lines" (defArgs s_l_lines) (defBody s_l_lines) (defScope s_l_lines) .none kV_l_lines dc_l_lines pm_l_lines an_l_lines cd_l_lines ct_l_lines), sl_l_lines⟩)
    (zd_l_lines : PySem.W.codeIn K cd_l_lines "_law_lines" = true)
    (zk_l_lines : PySem.W.keepIn K (.ref f_l_lines) = true)
    (za_l_text_lines : PySem.W.nsIn K mainGlobals "_law_text_lines" = some (some (.ref f_l_text_lines)))
    (zl_l_text_lines : K.lookup f_l_text_lines = some ⟨oc_l_text_lines, od_l_text_lines, .func (PySem.W.fnOf "_law_text_lines" "_law_text_lines" (defArgs s_l_text_lines) (defBody s_l_text_lines) (defScope s_l_text_lines) .none kV_l_text_lines dc_l_text_lines pm_l_text_lines an_l_text_lines cd_l_text_lines ct_l_text_lines), sl_l_text_lines⟩)
    (zd_l_text_lines : PySem.W.codeIn K cd_l_text_lines "_law_text_lines" = true)
    (zk_l_text_lines : PySem.W.keepIn K (.ref f_l_text_lines) = true)
    (za_law : PySem.W.nsIn K mainGlobals "law" = some (some (.ref f_law)))
    (zl_law : K.lookup f_law = some ⟨oc_law, od_law, .func (PySem.W.fnOf "law" "law" (defArgs s_law) (defBody s_law) (defScope s_law) .none kV_law dc_law pm_law an_law cd_law ct_law), sl_law⟩)
    (zd_law : PySem.W.codeIn K cd_law "law" = true)
    (zk_law : PySem.W.keepIn K (.ref f_law) = true)
    : ∃ fd : FuncData, (∀ (s : Shared) (v : Value), BindsTo s fd ⟨[v], []⟩ [("_law_script", v)]) ∧ ∀ base : Heap, K.In base → base.Ns mainGlobals mg → FnOk l.prog w K mg base CX0 24 fa fd ["_law_script"] (spLaw K) := by
  have e := hfa.symm.trans (PySem.W.mg_of X G za_law)
  cases e
  have F_shown := fun_mk (st := s_shown) zl_shown zd_shown zk_shown
  have B_shown := F_shown.binds (ps := ["thing"]) fun _ _ _ _ _ _ us hl => match us, hl with | [_], _ => rfl
  have F_Row_head := fun_mk (st := s_Row_head) zl_Row_head zd_Row_head zk_Row_head
  have B_Row_head := F_Row_head.binds (ps := ["self"]) fun _ _ _ _ _ _ us hl => match us, hl with | [_], _ => rfl
  have F_SetRow_init := fun_mk (st := s_SetRow_init) zl_SetRow_init zd_SetRow_init zk_SetRow_init
  have B_SetRow_init := F_SetRow_init.binds (ps := ["self", "name", "one", "sign", "other"]) fun _ _ _ _ _ _ us hl => match us, hl with | [_, _, _, _, _], _ => rfl
  have F_SetRow_told := fun_mk (st := s_SetRow_told) zl_SetRow_told zd_SetRow_told zk_SetRow_told
  have B_SetRow_told := F_SetRow_told.binds (ps := ["self"]) fun _ _ _ _ _ _ us hl => match us, hl with | [_], _ => rfl
  have F_MakeRow_init := fun_mk (st := s_MakeRow_init) zl_MakeRow_init zd_MakeRow_init zk_MakeRow_init
  have B_MakeRow_init := F_MakeRow_init.binds (ps := ["self", "name", "record", "atoms"]) fun _ _ _ _ _ _ us hl => match us, hl with | [_, _, _, _], _ => rfl
  have F_MakeRow_told := fun_mk (st := s_MakeRow_told) zl_MakeRow_told zd_MakeRow_told zk_MakeRow_told
  have B_MakeRow_told := F_MakeRow_told.binds (ps := ["self"]) fun _ _ _ _ _ _ us hl => match us, hl with | [_], _ => rfl
  have F_NoneRow_init := fun_mk (st := s_NoneRow_init) zl_NoneRow_init zd_NoneRow_init zk_NoneRow_init
  have B_NoneRow_init := F_NoneRow_init.binds (ps := ["self", "name", "record"]) fun _ _ _ _ _ _ us hl => match us, hl with | [_, _, _], _ => rfl
  have F_NoneRow_told := fun_mk (st := s_NoneRow_told) zl_NoneRow_told zd_NoneRow_told zk_NoneRow_told
  have B_NoneRow_told := F_NoneRow_told.binds (ps := ["self"]) fun _ _ _ _ _ _ us hl => match us, hl with | [_], _ => rfl
  have F_GiveRow_init := fun_mk (st := s_GiveRow_init) zl_GiveRow_init zd_GiveRow_init zk_GiveRow_init
  have B_GiveRow_init := F_GiveRow_init.binds (ps := ["self", "name", "other"]) fun _ _ _ _ _ _ us hl => match us, hl with | [_, _, _], _ => rfl
  have F_GiveRow_told := fun_mk (st := s_GiveRow_told) zl_GiveRow_told zd_GiveRow_told zk_GiveRow_told
  have B_GiveRow_told := F_GiveRow_told.binds (ps := ["self"]) fun _ _ _ _ _ _ us hl => match us, hl with | [_], _ => rfl
  have F_TakeRow_init := fun_mk (st := s_TakeRow_init) zl_TakeRow_init zd_TakeRow_init zk_TakeRow_init
  have B_TakeRow_init := F_TakeRow_init.binds (ps := ["self", "name", "path"]) fun _ _ _ _ _ _ us hl => match us, hl with | [_, _, _], _ => rfl
  have F_TakeRow_told := fun_mk (st := s_TakeRow_told) zl_TakeRow_told zd_TakeRow_told zk_TakeRow_told
  have B_TakeRow_told := F_TakeRow_told.binds (ps := ["self"]) fun _ _ _ _ _ _ us hl => match us, hl with | [_], _ => rfl
  have F_FillRow_init := fun_mk (st := s_FillRow_init) zl_FillRow_init zd_FillRow_init zk_FillRow_init
  have B_FillRow_init := F_FillRow_init.binds (ps := ["self", "path", "name"]) fun _ _ _ _ _ _ us hl => match us, hl with | [_, _, _], _ => rfl
  have F_FillRow_told := fun_mk (st := s_FillRow_told) zl_FillRow_told zd_FillRow_told zk_FillRow_told
  have B_FillRow_told := F_FillRow_told.binds (ps := ["self"]) fun _ _ _ _ _ _ us hl => match us, hl with | [_], _ => rfl
  have F_SwapRow_init := fun_mk (st := s_SwapRow_init) zl_SwapRow_init zd_SwapRow_init zk_SwapRow_init
  have B_SwapRow_init := F_SwapRow_init.binds (ps := ["self", "name", "path"]) fun _ _ _ _ _ _ us hl => match us, hl with | [_, _, _], _ => rfl
  have F_SwapRow_told := fun_mk (st := s_SwapRow_told) zl_SwapRow_told zd_SwapRow_told zk_SwapRow_told
  have B_SwapRow_told := F_SwapRow_told.binds (ps := ["self"]) fun _ _ _ _ _ _ us hl => match us, hl with | [_], _ => rfl
  have F_GetRow_init := fun_mk (st := s_GetRow_init) zl_GetRow_init zd_GetRow_init zk_GetRow_init
  have B_GetRow_init := F_GetRow_init.binds (ps := ["self", "name", "path"]) fun _ _ _ _ _ _ us hl => match us, hl with | [_, _, _], _ => rfl
  have F_GetRow_told := fun_mk (st := s_GetRow_told) zl_GetRow_told zd_GetRow_told zk_GetRow_told
  have B_GetRow_told := F_GetRow_told.binds (ps := ["self"]) fun _ _ _ _ _ _ us hl => match us, hl with | [_], _ => rfl
  have F_PutRow_init := fun_mk (st := s_PutRow_init) zl_PutRow_init zd_PutRow_init zk_PutRow_init
  have B_PutRow_init := F_PutRow_init.binds (ps := ["self", "path", "atom"]) fun _ _ _ _ _ _ us hl => match us, hl with | [_, _, _], _ => rfl
  have F_PutRow_told := fun_mk (st := s_PutRow_told) zl_PutRow_told zd_PutRow_told zk_PutRow_told
  have B_PutRow_told := F_PutRow_told.binds (ps := ["self"]) fun _ _ _ _ _ _ us hl => match us, hl with | [_], _ => rfl
  have F_HasRow_init := fun_mk (st := s_HasRow_init) zl_HasRow_init zd_HasRow_init zk_HasRow_init
  have B_HasRow_init := F_HasRow_init.binds (ps := ["self", "name", "path"]) fun _ _ _ _ _ _ us hl => match us, hl with | [_, _, _], _ => rfl
  have F_HasRow_told := fun_mk (st := s_HasRow_told) zl_HasRow_told zd_HasRow_told zk_HasRow_told
  have B_HasRow_told := F_HasRow_told.binds (ps := ["self"]) fun _ _ _ _ _ _ us hl => match us, hl with | [_], _ => rfl
  have F_DropRow_init := fun_mk (st := s_DropRow_init) zl_DropRow_init zd_DropRow_init zk_DropRow_init
  have B_DropRow_init := F_DropRow_init.binds (ps := ["self", "name"]) fun _ _ _ _ _ _ us hl => match us, hl with | [_, _], _ => rfl
  have F_DropRow_told := fun_mk (st := s_DropRow_told) zl_DropRow_told zd_DropRow_told zk_DropRow_told
  have B_DropRow_told := F_DropRow_told.binds (ps := ["self"]) fun _ _ _ _ _ _ us hl => match us, hl with | [_], _ => rfl
  have F_LendRow_init := fun_mk (st := s_LendRow_init) zl_LendRow_init zd_LendRow_init zk_LendRow_init
  have B_LendRow_init := F_LendRow_init.binds (ps := ["self", "mode", "name", "path"]) fun _ _ _ _ _ _ us hl => match us, hl with | [_, _, _, _], _ => rfl
  have F_LendRow_told := fun_mk (st := s_LendRow_told) zl_LendRow_told zd_LendRow_told zk_LendRow_told
  have B_LendRow_told := F_LendRow_told.binds (ps := ["self"]) fun _ _ _ _ _ _ us hl => match us, hl with | [_], _ => rfl
  have F_StepRow_init := fun_mk (st := s_StepRow_init) zl_StepRow_init zd_StepRow_init zk_StepRow_init
  have B_StepRow_init := F_StepRow_init.binds (ps := ["self", "name", "field"]) fun _ _ _ _ _ _ us hl => match us, hl with | [_, _, _], _ => rfl
  have F_StepRow_told := fun_mk (st := s_StepRow_told) zl_StepRow_told zd_StepRow_told zk_StepRow_told
  have B_StepRow_told := F_StepRow_told.binds (ps := ["self"]) fun _ _ _ _ _ _ us hl => match us, hl with | [_], _ => rfl
  have F_CallRow_init := fun_mk (st := s_CallRow_init) zl_CallRow_init zd_CallRow_init zk_CallRow_init
  have B_CallRow_init := F_CallRow_init.binds (ps := ["self", "name", "helper", "given"]) fun _ _ _ _ _ _ us hl => match us, hl with | [_, _, _, _], _ => rfl
  have F_CallRow_told := fun_mk (st := s_CallRow_told) zl_CallRow_told zd_CallRow_told zk_CallRow_told
  have B_CallRow_told := F_CallRow_told.binds (ps := ["self"]) fun _ _ _ _ _ _ us hl => match us, hl with | [_], _ => rfl
  have F_BackRow_init := fun_mk (st := s_BackRow_init) zl_BackRow_init zd_BackRow_init zk_BackRow_init
  have B_BackRow_init := F_BackRow_init.binds (ps := ["self", "atom"]) fun _ _ _ _ _ _ us hl => match us, hl with | [_, _], _ => rfl
  have F_BackRow_told := fun_mk (st := s_BackRow_told) zl_BackRow_told zd_BackRow_told zk_BackRow_told
  have B_BackRow_told := F_BackRow_told.binds (ps := ["self"]) fun _ _ _ _ _ _ us hl => match us, hl with | [_], _ => rfl
  have F_AskRow_init := fun_mk (st := s_AskRow_init) zl_AskRow_init zd_AskRow_init zk_AskRow_init
  have B_AskRow_init := F_AskRow_init.binds (ps := ["self", "name"]) fun _ _ _ _ _ _ us hl => match us, hl with | [_, _], _ => rfl
  have F_AskRow_told := fun_mk (st := s_AskRow_told) zl_AskRow_told zd_AskRow_told zk_AskRow_told
  have B_AskRow_told := F_AskRow_told.binds (ps := ["self"]) fun _ _ _ _ _ _ us hl => match us, hl with | [_], _ => rfl
  have F_TellRow_init := fun_mk (st := s_TellRow_init) zl_TellRow_init zd_TellRow_init zk_TellRow_init
  have B_TellRow_init := F_TellRow_init.binds (ps := ["self", "atom"]) fun _ _ _ _ _ _ us hl => match us, hl with | [_, _], _ => rfl
  have F_TellRow_told := fun_mk (st := s_TellRow_told) zl_TellRow_told zd_TellRow_told zk_TellRow_told
  have B_TellRow_told := F_TellRow_told.binds (ps := ["self"]) fun _ _ _ _ _ _ us hl => match us, hl with | [_], _ => rfl
  have F_IfRow_init := fun_mk (st := s_IfRow_init) zl_IfRow_init zd_IfRow_init zk_IfRow_init
  have B_IfRow_init := F_IfRow_init.binds (ps := ["self", "atom", "rows", "others"]) fun _ _ _ _ _ _ us hl => match us, hl with | [_, _, _, _], _ => rfl
  have F_IfRow_told := fun_mk (st := s_IfRow_told) zl_IfRow_told zd_IfRow_told zk_IfRow_told
  have B_IfRow_told := F_IfRow_told.binds (ps := ["self"]) fun _ _ _ _ _ _ us hl => match us, hl with | [_], _ => rfl
  have F_WhileRow_init := fun_mk (st := s_WhileRow_init) zl_WhileRow_init zd_WhileRow_init zk_WhileRow_init
  have B_WhileRow_init := F_WhileRow_init.binds (ps := ["self", "atom", "rows"]) fun _ _ _ _ _ _ us hl => match us, hl with | [_, _, _], _ => rfl
  have F_WhileRow_told := fun_mk (st := s_WhileRow_told) zl_WhileRow_told zd_WhileRow_told zk_WhileRow_told
  have B_WhileRow_told := F_WhileRow_told.binds (ps := ["self"]) fun _ _ _ _ _ _ us hl => match us, hl with | [_], _ => rfl
  have F_Record_init := fun_mk (st := s_Record_init) zl_Record_init zd_Record_init zk_Record_init
  have B_Record_init := F_Record_init.binds (ps := ["self", "name", "fields"]) fun _ _ _ _ _ _ us hl => match us, hl with | [_, _, _], _ => rfl
  have F_Record_told := fun_mk (st := s_Record_told) zl_Record_told zd_Record_told zk_Record_told
  have B_Record_told := F_Record_told.binds (ps := ["self"]) fun _ _ _ _ _ _ us hl => match us, hl with | [_], _ => rfl
  have F_Helper_init := fun_mk (st := s_Helper_init) zl_Helper_init zd_Helper_init zk_Helper_init
  have B_Helper_init := F_Helper_init.binds (ps := ["self", "name", "params", "gives", "rows"]) fun _ _ _ _ _ _ us hl => match us, hl with | [_, _, _, _, _], _ => rfl
  have F_Helper_told := fun_mk (st := s_Helper_told) zl_Helper_told zd_Helper_told zk_Helper_told
  have B_Helper_told := F_Helper_told.binds (ps := ["self"]) fun _ _ _ _ _ _ us hl => match us, hl with | [_], _ => rfl
  have F_Program_init := fun_mk (st := s_Program_init) zl_Program_init zd_Program_init zk_Program_init
  have B_Program_init := F_Program_init.binds (ps := ["self", "records", "helpers"]) fun _ _ _ _ _ _ us hl => match us, hl with | [_, _, _], _ => rfl
  have F_Program_told := fun_mk (st := s_Program_told) zl_Program_told zd_Program_told zk_Program_told
  have B_Program_told := F_Program_told.binds (ps := ["self"]) fun _ _ _ _ _ _ us hl => match us, hl with | [_], _ => rfl
  have F_SetRow_head := fun_mk (st := s_SetRow_head) zl_SetRow_head zd_SetRow_head zk_SetRow_head
  have B_SetRow_head := F_SetRow_head.binds (ps := ["self"]) fun _ _ _ _ _ _ us hl => match us, hl with | [_], _ => rfl
  have F_MakeRow_head := fun_mk (st := s_MakeRow_head) zl_MakeRow_head zd_MakeRow_head zk_MakeRow_head
  have B_MakeRow_head := F_MakeRow_head.binds (ps := ["self"]) fun _ _ _ _ _ _ us hl => match us, hl with | [_], _ => rfl
  have F_HasRow_head := fun_mk (st := s_HasRow_head) zl_HasRow_head zd_HasRow_head zk_HasRow_head
  have B_HasRow_head := F_HasRow_head.binds (ps := ["self"]) fun _ _ _ _ _ _ us hl => match us, hl with | [_], _ => rfl
  have F_CallRow_head := fun_mk (st := s_CallRow_head) zl_CallRow_head zd_CallRow_head zk_CallRow_head
  have B_CallRow_head := F_CallRow_head.binds (ps := ["self"]) fun _ _ _ _ _ _ us hl => match us, hl with | [_], _ => rfl
  have F_IfRow_head := fun_mk (st := s_IfRow_head) zl_IfRow_head zd_IfRow_head zk_IfRow_head
  have B_IfRow_head := F_IfRow_head.binds (ps := ["self"]) fun _ _ _ _ _ _ us hl => match us, hl with | [_], _ => rfl
  have F_WhileRow_head := fun_mk (st := s_WhileRow_head) zl_WhileRow_head zd_WhileRow_head zk_WhileRow_head
  have B_WhileRow_head := F_WhileRow_head.binds (ps := ["self"]) fun _ _ _ _ _ _ us hl => match us, hl with | [_], _ => rfl
  have F_all_told := fun_mk (st := s_all_told) zl_all_told zd_all_told zk_all_told
  have B_all_told := F_all_told.binds (ps := ["rows"]) fun _ _ _ _ _ _ us hl => match us, hl with | [_], _ => rfl
  have F_rows_written := fun_mk (st := s_rows_written) zl_rows_written zd_rows_written zk_rows_written
  have B_rows_written := F_rows_written.binds (ps := ["rows", "deep"]) fun _ _ _ _ _ _ us hl => match us, hl with | [_, _], _ => rfl
  have F_record_written := fun_mk (st := s_record_written) zl_record_written zd_record_written zk_record_written
  have B_record_written := F_record_written.binds (ps := ["record"]) fun _ _ _ _ _ _ us hl => match us, hl with | [_], _ => rfl
  have F_param_written := fun_mk (st := s_param_written) zl_param_written zd_param_written zk_param_written
  have B_param_written := F_param_written.binds (ps := ["how", "name", "kind"]) fun _ _ _ _ _ _ us hl => match us, hl with | [_, _, _], _ => rfl
  have F_helper_written := fun_mk (st := s_helper_written) zl_helper_written zd_helper_written zk_helper_written
  have B_helper_written := F_helper_written.binds (ps := ["helper"]) fun _ _ _ _ _ _ us hl => match us, hl with | [_], _ => rfl
  have F_written := fun_mk (st := s_written) zl_written zd_written zk_written
  have B_written := F_written.binds (ps := ["program"]) fun _ _ _ _ _ _ us hl => match us, hl with | [_], _ => rfl
  have F_l_draw := fun_mk (st := s_l_draw) zl_l_draw zd_l_draw zk_l_draw
  have B_l_draw := F_l_draw.binds (ps := ["_law_script", "_law_tape", "_law_many"]) fun _ _ _ _ _ _ us hl => match us, hl with | [_, _, _], _ => rfl
  have F_l_kept := fun_mk (st := s_l_kept) zl_l_kept zd_l_kept zk_l_kept
  have B_l_kept := F_l_kept.binds (ps := []) fun _ _ _ _ _ _ us hl => match us, hl with | [], _ => rfl
  have F_l_word := fun_mk (st := s_l_word) zl_l_word zd_l_word zk_l_word
  have B_l_word := F_l_word.binds (ps := ["_law_script", "_law_number_here"]) fun _ _ _ _ _ _ us hl => match us, hl with | [_, _], _ => rfl
  have F_l_name := fun_mk (st := s_l_name) zl_l_name zd_l_name zk_l_name
  have B_l_name := F_l_name.binds (ps := ["_law_script", "_law_tape"]) fun _ _ _ _ _ _ us hl => match us, hl with | [_, _], _ => rfl
  have F_l_number := fun_mk (st := s_l_number) zl_l_number zd_l_number zk_l_number
  have B_l_number := F_l_number.binds (ps := ["_law_script", "_law_tape"]) fun _ _ _ _ _ _ us hl => match us, hl with | [_, _], _ => rfl
  have F_l_atom := fun_mk (st := s_l_atom) zl_l_atom zd_l_atom zk_l_atom
  have B_l_atom := F_l_atom.binds (ps := ["_law_script", "_law_tape"]) fun _ _ _ _ _ _ us hl => match us, hl with | [_, _], _ => rfl
  have F_l_path := fun_mk (st := s_l_path) zl_l_path zd_l_path zk_l_path
  have B_l_path := F_l_path.binds (ps := ["_law_script", "_law_tape"]) fun _ _ _ _ _ _ us hl => match us, hl with | [_, _], _ => rfl
  have F_l_given := fun_mk (st := s_l_given) zl_l_given zd_l_given zk_l_given
  have B_l_given := F_l_given.binds (ps := ["_law_script", "_law_tape"]) fun _ _ _ _ _ _ us hl => match us, hl with | [_, _], _ => rfl
  have F_l_plain := fun_mk (st := s_l_plain) zl_l_plain zd_l_plain zk_l_plain
  have B_l_plain := F_l_plain.binds (ps := ["_law_script", "_law_tape"]) fun _ _ _ _ _ _ us hl => match us, hl with | [_, _], _ => rfl
  have F_l_rows := fun_mk (st := s_l_rows) zl_l_rows zd_l_rows zk_l_rows
  have B_l_rows := F_l_rows.binds (ps := ["_law_script", "_law_tape", "_law_deep", "_law_room"]) fun _ _ _ _ _ _ us hl => match us, hl with | [_, _, _, _], _ => rfl
  have F_l_kind := fun_mk (st := s_l_kind) zl_l_kind zd_l_kind zk_l_kind
  have B_l_kind := F_l_kind.binds (ps := ["_law_script", "_law_tape"]) fun _ _ _ _ _ _ us hl => match us, hl with | [_, _], _ => rfl
  have F_l_param := fun_mk (st := s_l_param) zl_l_param zd_l_param zk_l_param
  have B_l_param := F_l_param.binds (ps := ["_law_script", "_law_tape"]) fun _ _ _ _ _ _ us hl => match us, hl with | [_, _], _ => rfl
  have F_l_program := fun_mk (st := s_l_program) zl_l_program zd_l_program zk_l_program
  have B_l_program := F_l_program.binds (ps := ["_law_script", "_law_tape"]) fun _ _ _ _ _ _ us hl => match us, hl with | [_, _], _ => rfl
  have F_l_box_row := fun_mk (st := s_l_box_row) zl_l_box_row zd_l_box_row zk_l_box_row
  have B_l_box_row := F_l_box_row.binds (ps := ["_law_told"]) fun _ _ _ _ _ _ us hl => match us, hl with | [_], _ => rfl
  have F_l_made := fun_mk (st := s_l_made) zl_l_made zd_l_made zk_l_made
  have B_l_made := F_l_made.binds (ps := ["_law_told"]) fun _ _ _ _ _ _ us hl => match us, hl with | [_], _ => rfl
  have F_l_made_program := fun_mk (st := s_l_made_program) zl_l_made_program zd_l_made_program zk_l_made_program
  have B_l_made_program := F_l_made_program.binds (ps := ["_law_told"]) fun _ _ _ _ _ _ us hl => match us, hl with | [_], _ => rfl
  have F_l_alike := fun_mk (st := s_l_alike) zl_l_alike zd_l_alike zk_l_alike
  have B_l_alike := F_l_alike.binds (ps := ["_law_found", "_law_due"]) fun _ _ _ _ _ _ us hl => match us, hl with | [_, _], _ => rfl
  have F_l_shown := fun_mk (st := s_l_shown) zl_l_shown zd_l_shown zk_l_shown
  have B_l_shown := F_l_shown.binds (ps := ["_law_thing"]) fun _ _ _ _ _ _ us hl => match us, hl with | [_], _ => rfl
  have F_l_head := fun_mk (st := s_l_head) zl_l_head zd_l_head zk_l_head
  have B_l_head := F_l_head.binds (ps := ["_law_told"]) fun _ _ _ _ _ _ us hl => match us, hl with | [_], _ => rfl
  have F_l_lines := fun_mk (st := s_l_lines) zl_l_lines zd_l_lines zk_l_lines
  have B_l_lines := F_l_lines.binds (ps := ["_law_rows_here", "_law_deep"]) fun _ _ _ _ _ _ us hl => match us, hl with | [_, _], _ => rfl
  have F_l_text_lines := fun_mk (st := s_l_text_lines) zl_l_text_lines zd_l_text_lines zk_l_text_lines
  have B_l_text_lines := F_l_text_lines.binds (ps := ["_law_told"]) fun _ _ _ _ _ _ us hl => match us, hl with | [_], _ => rfl
  have F_law := fun_mk (st := s_law) zl_law zd_law zk_law
  have B_law := F_law.binds (ps := ["_law_script"]) fun _ _ _ _ _ _ us hl => match us, hl with | [_], _ => rfl
  let T : Tx K mg := {
    n_isinstance := PySem.W.mg_none_of X G zn_isinstance
    n_tuple := PySem.W.mg_none_of X G zn_tuple
    n_str := PySem.W.mg_none_of X G zn_str
    n_len := PySem.W.mg_none_of X G zn_len
    n_range := PySem.W.mg_none_of X G zn_range
    n_all := PySem.W.mg_none_of X G zn_all
    n_zip := PySem.W.mg_none_of X G zn_zip
    n_int := PySem.W.mg_none_of X G zn_int
    n_bool := PySem.W.mg_none_of X G zn_bool
    a_SetRow := a_SetRow
    c_SetRow := PySem.W.mg_of X G zc_SetRow
    cl_SetRow := ⟨zpg_SetRow, zhd_SetRow, zpo_SetRow, zsa_SetRow⟩
    na_SetRow_name := zna_SetRow_name
    na_SetRow_one := zna_SetRow_one
    na_SetRow_sign := zna_SetRow_sign
    na_SetRow_other := zna_SetRow_other
    a_MakeRow := a_MakeRow
    c_MakeRow := PySem.W.mg_of X G zc_MakeRow
    cl_MakeRow := ⟨zpg_MakeRow, zhd_MakeRow, zpo_MakeRow, zsa_MakeRow⟩
    na_MakeRow_name := zna_MakeRow_name
    na_MakeRow_record := zna_MakeRow_record
    na_MakeRow_atoms := zna_MakeRow_atoms
    a_NoneRow := a_NoneRow
    c_NoneRow := PySem.W.mg_of X G zc_NoneRow
    cl_NoneRow := ⟨zpg_NoneRow, zhd_NoneRow, zpo_NoneRow, zsa_NoneRow⟩
    na_NoneRow_name := zna_NoneRow_name
    na_NoneRow_record := zna_NoneRow_record
    a_GiveRow := a_GiveRow
    c_GiveRow := PySem.W.mg_of X G zc_GiveRow
    cl_GiveRow := ⟨zpg_GiveRow, zhd_GiveRow, zpo_GiveRow, zsa_GiveRow⟩
    na_GiveRow_name := zna_GiveRow_name
    na_GiveRow_other := zna_GiveRow_other
    a_TakeRow := a_TakeRow
    c_TakeRow := PySem.W.mg_of X G zc_TakeRow
    cl_TakeRow := ⟨zpg_TakeRow, zhd_TakeRow, zpo_TakeRow, zsa_TakeRow⟩
    na_TakeRow_name := zna_TakeRow_name
    na_TakeRow_path := zna_TakeRow_path
    a_FillRow := a_FillRow
    c_FillRow := PySem.W.mg_of X G zc_FillRow
    cl_FillRow := ⟨zpg_FillRow, zhd_FillRow, zpo_FillRow, zsa_FillRow⟩
    na_FillRow_path := zna_FillRow_path
    na_FillRow_name := zna_FillRow_name
    a_SwapRow := a_SwapRow
    c_SwapRow := PySem.W.mg_of X G zc_SwapRow
    cl_SwapRow := ⟨zpg_SwapRow, zhd_SwapRow, zpo_SwapRow, zsa_SwapRow⟩
    na_SwapRow_name := zna_SwapRow_name
    na_SwapRow_path := zna_SwapRow_path
    a_GetRow := a_GetRow
    c_GetRow := PySem.W.mg_of X G zc_GetRow
    cl_GetRow := ⟨zpg_GetRow, zhd_GetRow, zpo_GetRow, zsa_GetRow⟩
    na_GetRow_name := zna_GetRow_name
    na_GetRow_path := zna_GetRow_path
    a_PutRow := a_PutRow
    c_PutRow := PySem.W.mg_of X G zc_PutRow
    cl_PutRow := ⟨zpg_PutRow, zhd_PutRow, zpo_PutRow, zsa_PutRow⟩
    na_PutRow_path := zna_PutRow_path
    na_PutRow_atom := zna_PutRow_atom
    a_HasRow := a_HasRow
    c_HasRow := PySem.W.mg_of X G zc_HasRow
    cl_HasRow := ⟨zpg_HasRow, zhd_HasRow, zpo_HasRow, zsa_HasRow⟩
    na_HasRow_name := zna_HasRow_name
    na_HasRow_path := zna_HasRow_path
    a_DropRow := a_DropRow
    c_DropRow := PySem.W.mg_of X G zc_DropRow
    cl_DropRow := ⟨zpg_DropRow, zhd_DropRow, zpo_DropRow, zsa_DropRow⟩
    na_DropRow_name := zna_DropRow_name
    a_LendRow := a_LendRow
    c_LendRow := PySem.W.mg_of X G zc_LendRow
    cl_LendRow := ⟨zpg_LendRow, zhd_LendRow, zpo_LendRow, zsa_LendRow⟩
    na_LendRow_mode := zna_LendRow_mode
    na_LendRow_name := zna_LendRow_name
    na_LendRow_path := zna_LendRow_path
    a_StepRow := a_StepRow
    c_StepRow := PySem.W.mg_of X G zc_StepRow
    cl_StepRow := ⟨zpg_StepRow, zhd_StepRow, zpo_StepRow, zsa_StepRow⟩
    na_StepRow_name := zna_StepRow_name
    na_StepRow_field := zna_StepRow_field
    a_CallRow := a_CallRow
    c_CallRow := PySem.W.mg_of X G zc_CallRow
    cl_CallRow := ⟨zpg_CallRow, zhd_CallRow, zpo_CallRow, zsa_CallRow⟩
    na_CallRow_name := zna_CallRow_name
    na_CallRow_helper := zna_CallRow_helper
    na_CallRow_given := zna_CallRow_given
    a_BackRow := a_BackRow
    c_BackRow := PySem.W.mg_of X G zc_BackRow
    cl_BackRow := ⟨zpg_BackRow, zhd_BackRow, zpo_BackRow, zsa_BackRow⟩
    na_BackRow_atom := zna_BackRow_atom
    a_AskRow := a_AskRow
    c_AskRow := PySem.W.mg_of X G zc_AskRow
    cl_AskRow := ⟨zpg_AskRow, zhd_AskRow, zpo_AskRow, zsa_AskRow⟩
    na_AskRow_name := zna_AskRow_name
    a_TellRow := a_TellRow
    c_TellRow := PySem.W.mg_of X G zc_TellRow
    cl_TellRow := ⟨zpg_TellRow, zhd_TellRow, zpo_TellRow, zsa_TellRow⟩
    na_TellRow_atom := zna_TellRow_atom
    a_IfRow := a_IfRow
    c_IfRow := PySem.W.mg_of X G zc_IfRow
    cl_IfRow := ⟨zpg_IfRow, zhd_IfRow, zpo_IfRow, zsa_IfRow⟩
    na_IfRow_atom := zna_IfRow_atom
    na_IfRow_rows := zna_IfRow_rows
    na_IfRow_others := zna_IfRow_others
    a_WhileRow := a_WhileRow
    c_WhileRow := PySem.W.mg_of X G zc_WhileRow
    cl_WhileRow := ⟨zpg_WhileRow, zhd_WhileRow, zpo_WhileRow, zsa_WhileRow⟩
    na_WhileRow_atom := zna_WhileRow_atom
    na_WhileRow_rows := zna_WhileRow_rows
    a_Record := a_Record
    c_Record := PySem.W.mg_of X G zc_Record
    cl_Record := ⟨zpg_Record, zhd_Record, zpo_Record, zsa_Record⟩
    na_Record_name := zna_Record_name
    na_Record_fields := zna_Record_fields
    a_Helper := a_Helper
    c_Helper := PySem.W.mg_of X G zc_Helper
    cl_Helper := ⟨zpg_Helper, zhd_Helper, zpo_Helper, zsa_Helper⟩
    na_Helper_name := zna_Helper_name
    na_Helper_params := zna_Helper_params
    na_Helper_gives := zna_Helper_gives
    na_Helper_rows := zna_Helper_rows
    a_Program := a_Program
    c_Program := PySem.W.mg_of X G zc_Program
    cl_Program := ⟨zpg_Program, zhd_Program, zpo_Program, zsa_Program⟩
    na_Program_records := zna_Program_records
    na_Program_helpers := zna_Program_helpers
    a_Row := a_Row
    c_Row := PySem.W.mg_of X G zc_Row
    cl_Row := ⟨zpg_Row, zhd_Row, zpo_Row, zsa_Row⟩
    f_shown := f_shown
    d_shown := _
    F_shown := F_shown
    B_shown := B_shown
    m_shown := PySem.W.mg_of X G za_shown
    f_Row_head := f_Row_head
    d_Row_head := _
    F_Row_head := F_Row_head
    B_Row_head := B_Row_head
    f_SetRow_init := f_SetRow_init
    d_SetRow_init := _
    F_SetRow_init := F_SetRow_init
    B_SetRow_init := B_SetRow_init
    Mk_SetRow := ⟨zmk_SetRow, za_SetRow_init, zi_SetRow_init, zkc_SetRow⟩
    f_SetRow_told := f_SetRow_told
    d_SetRow_told := _
    F_SetRow_told := F_SetRow_told
    B_SetRow_told := B_SetRow_told
    f_MakeRow_init := f_MakeRow_init
    d_MakeRow_init := _
    F_MakeRow_init := F_MakeRow_init
    B_MakeRow_init := B_MakeRow_init
    Mk_MakeRow := ⟨zmk_MakeRow, za_MakeRow_init, zi_MakeRow_init, zkc_MakeRow⟩
    f_MakeRow_told := f_MakeRow_told
    d_MakeRow_told := _
    F_MakeRow_told := F_MakeRow_told
    B_MakeRow_told := B_MakeRow_told
    f_NoneRow_init := f_NoneRow_init
    d_NoneRow_init := _
    F_NoneRow_init := F_NoneRow_init
    B_NoneRow_init := B_NoneRow_init
    Mk_NoneRow := ⟨zmk_NoneRow, za_NoneRow_init, zi_NoneRow_init, zkc_NoneRow⟩
    f_NoneRow_told := f_NoneRow_told
    d_NoneRow_told := _
    F_NoneRow_told := F_NoneRow_told
    B_NoneRow_told := B_NoneRow_told
    f_GiveRow_init := f_GiveRow_init
    d_GiveRow_init := _
    F_GiveRow_init := F_GiveRow_init
    B_GiveRow_init := B_GiveRow_init
    Mk_GiveRow := ⟨zmk_GiveRow, za_GiveRow_init, zi_GiveRow_init, zkc_GiveRow⟩
    f_GiveRow_told := f_GiveRow_told
    d_GiveRow_told := _
    F_GiveRow_told := F_GiveRow_told
    B_GiveRow_told := B_GiveRow_told
    f_TakeRow_init := f_TakeRow_init
    d_TakeRow_init := _
    F_TakeRow_init := F_TakeRow_init
    B_TakeRow_init := B_TakeRow_init
    Mk_TakeRow := ⟨zmk_TakeRow, za_TakeRow_init, zi_TakeRow_init, zkc_TakeRow⟩
    f_TakeRow_told := f_TakeRow_told
    d_TakeRow_told := _
    F_TakeRow_told := F_TakeRow_told
    B_TakeRow_told := B_TakeRow_told
    f_FillRow_init := f_FillRow_init
    d_FillRow_init := _
    F_FillRow_init := F_FillRow_init
    B_FillRow_init := B_FillRow_init
    Mk_FillRow := ⟨zmk_FillRow, za_FillRow_init, zi_FillRow_init, zkc_FillRow⟩
    f_FillRow_told := f_FillRow_told
    d_FillRow_told := _
    F_FillRow_told := F_FillRow_told
    B_FillRow_told := B_FillRow_told
    f_SwapRow_init := f_SwapRow_init
    d_SwapRow_init := _
    F_SwapRow_init := F_SwapRow_init
    B_SwapRow_init := B_SwapRow_init
    Mk_SwapRow := ⟨zmk_SwapRow, za_SwapRow_init, zi_SwapRow_init, zkc_SwapRow⟩
    f_SwapRow_told := f_SwapRow_told
    d_SwapRow_told := _
    F_SwapRow_told := F_SwapRow_told
    B_SwapRow_told := B_SwapRow_told
    f_GetRow_init := f_GetRow_init
    d_GetRow_init := _
    F_GetRow_init := F_GetRow_init
    B_GetRow_init := B_GetRow_init
    Mk_GetRow := ⟨zmk_GetRow, za_GetRow_init, zi_GetRow_init, zkc_GetRow⟩
    f_GetRow_told := f_GetRow_told
    d_GetRow_told := _
    F_GetRow_told := F_GetRow_told
    B_GetRow_told := B_GetRow_told
    f_PutRow_init := f_PutRow_init
    d_PutRow_init := _
    F_PutRow_init := F_PutRow_init
    B_PutRow_init := B_PutRow_init
    Mk_PutRow := ⟨zmk_PutRow, za_PutRow_init, zi_PutRow_init, zkc_PutRow⟩
    f_PutRow_told := f_PutRow_told
    d_PutRow_told := _
    F_PutRow_told := F_PutRow_told
    B_PutRow_told := B_PutRow_told
    f_HasRow_init := f_HasRow_init
    d_HasRow_init := _
    F_HasRow_init := F_HasRow_init
    B_HasRow_init := B_HasRow_init
    Mk_HasRow := ⟨zmk_HasRow, za_HasRow_init, zi_HasRow_init, zkc_HasRow⟩
    f_HasRow_told := f_HasRow_told
    d_HasRow_told := _
    F_HasRow_told := F_HasRow_told
    B_HasRow_told := B_HasRow_told
    f_DropRow_init := f_DropRow_init
    d_DropRow_init := _
    F_DropRow_init := F_DropRow_init
    B_DropRow_init := B_DropRow_init
    Mk_DropRow := ⟨zmk_DropRow, za_DropRow_init, zi_DropRow_init, zkc_DropRow⟩
    f_DropRow_told := f_DropRow_told
    d_DropRow_told := _
    F_DropRow_told := F_DropRow_told
    B_DropRow_told := B_DropRow_told
    f_LendRow_init := f_LendRow_init
    d_LendRow_init := _
    F_LendRow_init := F_LendRow_init
    B_LendRow_init := B_LendRow_init
    Mk_LendRow := ⟨zmk_LendRow, za_LendRow_init, zi_LendRow_init, zkc_LendRow⟩
    f_LendRow_told := f_LendRow_told
    d_LendRow_told := _
    F_LendRow_told := F_LendRow_told
    B_LendRow_told := B_LendRow_told
    f_StepRow_init := f_StepRow_init
    d_StepRow_init := _
    F_StepRow_init := F_StepRow_init
    B_StepRow_init := B_StepRow_init
    Mk_StepRow := ⟨zmk_StepRow, za_StepRow_init, zi_StepRow_init, zkc_StepRow⟩
    f_StepRow_told := f_StepRow_told
    d_StepRow_told := _
    F_StepRow_told := F_StepRow_told
    B_StepRow_told := B_StepRow_told
    f_CallRow_init := f_CallRow_init
    d_CallRow_init := _
    F_CallRow_init := F_CallRow_init
    B_CallRow_init := B_CallRow_init
    Mk_CallRow := ⟨zmk_CallRow, za_CallRow_init, zi_CallRow_init, zkc_CallRow⟩
    f_CallRow_told := f_CallRow_told
    d_CallRow_told := _
    F_CallRow_told := F_CallRow_told
    B_CallRow_told := B_CallRow_told
    f_BackRow_init := f_BackRow_init
    d_BackRow_init := _
    F_BackRow_init := F_BackRow_init
    B_BackRow_init := B_BackRow_init
    Mk_BackRow := ⟨zmk_BackRow, za_BackRow_init, zi_BackRow_init, zkc_BackRow⟩
    f_BackRow_told := f_BackRow_told
    d_BackRow_told := _
    F_BackRow_told := F_BackRow_told
    B_BackRow_told := B_BackRow_told
    f_AskRow_init := f_AskRow_init
    d_AskRow_init := _
    F_AskRow_init := F_AskRow_init
    B_AskRow_init := B_AskRow_init
    Mk_AskRow := ⟨zmk_AskRow, za_AskRow_init, zi_AskRow_init, zkc_AskRow⟩
    f_AskRow_told := f_AskRow_told
    d_AskRow_told := _
    F_AskRow_told := F_AskRow_told
    B_AskRow_told := B_AskRow_told
    f_TellRow_init := f_TellRow_init
    d_TellRow_init := _
    F_TellRow_init := F_TellRow_init
    B_TellRow_init := B_TellRow_init
    Mk_TellRow := ⟨zmk_TellRow, za_TellRow_init, zi_TellRow_init, zkc_TellRow⟩
    f_TellRow_told := f_TellRow_told
    d_TellRow_told := _
    F_TellRow_told := F_TellRow_told
    B_TellRow_told := B_TellRow_told
    f_IfRow_init := f_IfRow_init
    d_IfRow_init := _
    F_IfRow_init := F_IfRow_init
    B_IfRow_init := B_IfRow_init
    Mk_IfRow := ⟨zmk_IfRow, za_IfRow_init, zi_IfRow_init, zkc_IfRow⟩
    f_IfRow_told := f_IfRow_told
    d_IfRow_told := _
    F_IfRow_told := F_IfRow_told
    B_IfRow_told := B_IfRow_told
    f_WhileRow_init := f_WhileRow_init
    d_WhileRow_init := _
    F_WhileRow_init := F_WhileRow_init
    B_WhileRow_init := B_WhileRow_init
    Mk_WhileRow := ⟨zmk_WhileRow, za_WhileRow_init, zi_WhileRow_init, zkc_WhileRow⟩
    f_WhileRow_told := f_WhileRow_told
    d_WhileRow_told := _
    F_WhileRow_told := F_WhileRow_told
    B_WhileRow_told := B_WhileRow_told
    f_Record_init := f_Record_init
    d_Record_init := _
    F_Record_init := F_Record_init
    B_Record_init := B_Record_init
    Mk_Record := ⟨zmk_Record, za_Record_init, zi_Record_init, zkc_Record⟩
    f_Record_told := f_Record_told
    d_Record_told := _
    F_Record_told := F_Record_told
    B_Record_told := B_Record_told
    f_Helper_init := f_Helper_init
    d_Helper_init := _
    F_Helper_init := F_Helper_init
    B_Helper_init := B_Helper_init
    Mk_Helper := ⟨zmk_Helper, za_Helper_init, zi_Helper_init, zkc_Helper⟩
    f_Helper_told := f_Helper_told
    d_Helper_told := _
    F_Helper_told := F_Helper_told
    B_Helper_told := B_Helper_told
    f_Program_init := f_Program_init
    d_Program_init := _
    F_Program_init := F_Program_init
    B_Program_init := B_Program_init
    Mk_Program := ⟨zmk_Program, za_Program_init, zi_Program_init, zkc_Program⟩
    f_Program_told := f_Program_told
    d_Program_told := _
    F_Program_told := F_Program_told
    B_Program_told := B_Program_told
    f_SetRow_head := f_SetRow_head
    d_SetRow_head := _
    F_SetRow_head := F_SetRow_head
    B_SetRow_head := B_SetRow_head
    f_MakeRow_head := f_MakeRow_head
    d_MakeRow_head := _
    F_MakeRow_head := F_MakeRow_head
    B_MakeRow_head := B_MakeRow_head
    f_HasRow_head := f_HasRow_head
    d_HasRow_head := _
    F_HasRow_head := F_HasRow_head
    B_HasRow_head := B_HasRow_head
    f_CallRow_head := f_CallRow_head
    d_CallRow_head := _
    F_CallRow_head := F_CallRow_head
    B_CallRow_head := B_CallRow_head
    f_IfRow_head := f_IfRow_head
    d_IfRow_head := _
    F_IfRow_head := F_IfRow_head
    B_IfRow_head := B_IfRow_head
    f_WhileRow_head := f_WhileRow_head
    d_WhileRow_head := _
    F_WhileRow_head := F_WhileRow_head
    B_WhileRow_head := B_WhileRow_head
    f_all_told := f_all_told
    d_all_told := _
    F_all_told := F_all_told
    B_all_told := B_all_told
    m_all_told := PySem.W.mg_of X G za_all_told
    f_rows_written := f_rows_written
    d_rows_written := _
    F_rows_written := F_rows_written
    B_rows_written := B_rows_written
    m_rows_written := PySem.W.mg_of X G za_rows_written
    f_record_written := f_record_written
    d_record_written := _
    F_record_written := F_record_written
    B_record_written := B_record_written
    m_record_written := PySem.W.mg_of X G za_record_written
    f_param_written := f_param_written
    d_param_written := _
    F_param_written := F_param_written
    B_param_written := B_param_written
    m_param_written := PySem.W.mg_of X G za_param_written
    f_helper_written := f_helper_written
    d_helper_written := _
    F_helper_written := F_helper_written
    B_helper_written := B_helper_written
    m_helper_written := PySem.W.mg_of X G za_helper_written
    f_written := f_written
    d_written := _
    F_written := F_written
    B_written := B_written
    m_written := PySem.W.mg_of X G za_written
    f_l_draw := f_l_draw
    d_l_draw := _
    F_l_draw := F_l_draw
    B_l_draw := B_l_draw
    m_l_draw := PySem.W.mg_of X G za_l_draw
    f_l_kept := f_l_kept
    d_l_kept := _
    F_l_kept := F_l_kept
    B_l_kept := B_l_kept
    m_l_kept := PySem.W.mg_of X G za_l_kept
    f_l_word := f_l_word
    d_l_word := _
    F_l_word := F_l_word
    B_l_word := B_l_word
    m_l_word := PySem.W.mg_of X G za_l_word
    f_l_name := f_l_name
    d_l_name := _
    F_l_name := F_l_name
    B_l_name := B_l_name
    m_l_name := PySem.W.mg_of X G za_l_name
    f_l_number := f_l_number
    d_l_number := _
    F_l_number := F_l_number
    B_l_number := B_l_number
    m_l_number := PySem.W.mg_of X G za_l_number
    f_l_atom := f_l_atom
    d_l_atom := _
    F_l_atom := F_l_atom
    B_l_atom := B_l_atom
    m_l_atom := PySem.W.mg_of X G za_l_atom
    f_l_path := f_l_path
    d_l_path := _
    F_l_path := F_l_path
    B_l_path := B_l_path
    m_l_path := PySem.W.mg_of X G za_l_path
    f_l_given := f_l_given
    d_l_given := _
    F_l_given := F_l_given
    B_l_given := B_l_given
    m_l_given := PySem.W.mg_of X G za_l_given
    f_l_plain := f_l_plain
    d_l_plain := _
    F_l_plain := F_l_plain
    B_l_plain := B_l_plain
    m_l_plain := PySem.W.mg_of X G za_l_plain
    f_l_rows := f_l_rows
    d_l_rows := _
    F_l_rows := F_l_rows
    B_l_rows := B_l_rows
    m_l_rows := PySem.W.mg_of X G za_l_rows
    f_l_kind := f_l_kind
    d_l_kind := _
    F_l_kind := F_l_kind
    B_l_kind := B_l_kind
    m_l_kind := PySem.W.mg_of X G za_l_kind
    f_l_param := f_l_param
    d_l_param := _
    F_l_param := F_l_param
    B_l_param := B_l_param
    m_l_param := PySem.W.mg_of X G za_l_param
    f_l_program := f_l_program
    d_l_program := _
    F_l_program := F_l_program
    B_l_program := B_l_program
    m_l_program := PySem.W.mg_of X G za_l_program
    f_l_box_row := f_l_box_row
    d_l_box_row := _
    F_l_box_row := F_l_box_row
    B_l_box_row := B_l_box_row
    m_l_box_row := PySem.W.mg_of X G za_l_box_row
    f_l_made := f_l_made
    d_l_made := _
    F_l_made := F_l_made
    B_l_made := B_l_made
    m_l_made := PySem.W.mg_of X G za_l_made
    f_l_made_program := f_l_made_program
    d_l_made_program := _
    F_l_made_program := F_l_made_program
    B_l_made_program := B_l_made_program
    m_l_made_program := PySem.W.mg_of X G za_l_made_program
    f_l_alike := f_l_alike
    d_l_alike := _
    F_l_alike := F_l_alike
    B_l_alike := B_l_alike
    m_l_alike := PySem.W.mg_of X G za_l_alike
    f_l_shown := f_l_shown
    d_l_shown := _
    F_l_shown := F_l_shown
    B_l_shown := B_l_shown
    m_l_shown := PySem.W.mg_of X G za_l_shown
    f_l_head := f_l_head
    d_l_head := _
    F_l_head := F_l_head
    B_l_head := B_l_head
    m_l_head := PySem.W.mg_of X G za_l_head
    f_l_lines := f_l_lines
    d_l_lines := _
    F_l_lines := F_l_lines
    B_l_lines := B_l_lines
    m_l_lines := PySem.W.mg_of X G za_l_lines
    f_l_text_lines := f_l_text_lines
    d_l_text_lines := _
    F_l_text_lines := F_l_text_lines
    B_l_text_lines := B_l_text_lines
    m_l_text_lines := PySem.W.mg_of X G za_l_text_lines
    f_law := fa
    d_law := _
    F_law := F_law
    B_law := B_law
    m_law := PySem.W.mg_of X G za_law
    M_SetRow_told := ⟨zm_SetRow_told, zi_SetRow_told, zk_SetRow_told⟩
    M_SetRow_head := ⟨zm_SetRow_head, zi_SetRow_head, zk_SetRow_head⟩
    M_MakeRow_told := ⟨zm_MakeRow_told, zi_MakeRow_told, zk_MakeRow_told⟩
    M_MakeRow_head := ⟨zm_MakeRow_head, zi_MakeRow_head, zk_MakeRow_head⟩
    M_NoneRow_told := ⟨zm_NoneRow_told, zi_NoneRow_told, zk_NoneRow_told⟩
    M_NoneRow_head := ⟨zm_NoneRow_head, zi_Row_head, zk_Row_head⟩
    M_GiveRow_told := ⟨zm_GiveRow_told, zi_GiveRow_told, zk_GiveRow_told⟩
    M_GiveRow_head := ⟨zm_GiveRow_head, zi_Row_head, zk_Row_head⟩
    M_TakeRow_told := ⟨zm_TakeRow_told, zi_TakeRow_told, zk_TakeRow_told⟩
    M_TakeRow_head := ⟨zm_TakeRow_head, zi_Row_head, zk_Row_head⟩
    M_FillRow_told := ⟨zm_FillRow_told, zi_FillRow_told, zk_FillRow_told⟩
    M_FillRow_head := ⟨zm_FillRow_head, zi_Row_head, zk_Row_head⟩
    M_SwapRow_told := ⟨zm_SwapRow_told, zi_SwapRow_told, zk_SwapRow_told⟩
    M_SwapRow_head := ⟨zm_SwapRow_head, zi_Row_head, zk_Row_head⟩
    M_GetRow_told := ⟨zm_GetRow_told, zi_GetRow_told, zk_GetRow_told⟩
    M_GetRow_head := ⟨zm_GetRow_head, zi_Row_head, zk_Row_head⟩
    M_PutRow_told := ⟨zm_PutRow_told, zi_PutRow_told, zk_PutRow_told⟩
    M_PutRow_head := ⟨zm_PutRow_head, zi_Row_head, zk_Row_head⟩
    M_HasRow_told := ⟨zm_HasRow_told, zi_HasRow_told, zk_HasRow_told⟩
    M_HasRow_head := ⟨zm_HasRow_head, zi_HasRow_head, zk_HasRow_head⟩
    M_DropRow_told := ⟨zm_DropRow_told, zi_DropRow_told, zk_DropRow_told⟩
    M_DropRow_head := ⟨zm_DropRow_head, zi_Row_head, zk_Row_head⟩
    M_LendRow_told := ⟨zm_LendRow_told, zi_LendRow_told, zk_LendRow_told⟩
    M_LendRow_head := ⟨zm_LendRow_head, zi_Row_head, zk_Row_head⟩
    M_StepRow_told := ⟨zm_StepRow_told, zi_StepRow_told, zk_StepRow_told⟩
    M_StepRow_head := ⟨zm_StepRow_head, zi_Row_head, zk_Row_head⟩
    M_CallRow_told := ⟨zm_CallRow_told, zi_CallRow_told, zk_CallRow_told⟩
    M_CallRow_head := ⟨zm_CallRow_head, zi_CallRow_head, zk_CallRow_head⟩
    M_BackRow_told := ⟨zm_BackRow_told, zi_BackRow_told, zk_BackRow_told⟩
    M_BackRow_head := ⟨zm_BackRow_head, zi_Row_head, zk_Row_head⟩
    M_AskRow_told := ⟨zm_AskRow_told, zi_AskRow_told, zk_AskRow_told⟩
    M_AskRow_head := ⟨zm_AskRow_head, zi_Row_head, zk_Row_head⟩
    M_TellRow_told := ⟨zm_TellRow_told, zi_TellRow_told, zk_TellRow_told⟩
    M_TellRow_head := ⟨zm_TellRow_head, zi_Row_head, zk_Row_head⟩
    M_IfRow_told := ⟨zm_IfRow_told, zi_IfRow_told, zk_IfRow_told⟩
    M_IfRow_head := ⟨zm_IfRow_head, zi_IfRow_head, zk_IfRow_head⟩
    M_WhileRow_told := ⟨zm_WhileRow_told, zi_WhileRow_told, zk_WhileRow_told⟩
    M_WhileRow_head := ⟨zm_WhileRow_head, zi_WhileRow_head, zk_WhileRow_head⟩
    M_Record_told := ⟨zm_Record_told, zi_Record_told, zk_Record_told⟩
    M_Helper_told := ⟨zm_Helper_told, zi_Helper_told, zk_Helper_told⟩
    M_Program_told := ⟨zm_Program_told, zi_Program_told, zk_Program_told⟩
    isi := zisi }
  exact ⟨PySem.W.fnOf "law" "law" (defArgs s_law) (defBody s_law) (defScope s_law) .none kV_law dc_law pm_law an_law cd_law ct_law, fun s v => .of_eq rfl, fun base _ _ => ok_law T⟩
theorem facts {l : PySem.W.OpenLaw} {w : World} {K : PySem.W.Frag} {h : Heap} {mg : Str → Option Value} {fa : Addr} (X : K.In h) (G : h.Ns mainGlobals mg) (hfa : mg "law" = some (.ref fa)) (c : SaysK K) :
    ∃ fd : FuncData, (∀ (s : Shared) (v : Value), BindsTo s fd ⟨[v], []⟩ [("_law_script", v)]) ∧ ∀ base : Heap, K.In base → base.Ns mainGlobals mg → FnOk l.prog w K mg base CX0 24 fa fd ["_law_script"] (spLaw K) := by
  obtain ⟨_, _, _, _, _, _, _, _, _, zl_shown, zd_shown⟩ := saysD c (d := hd_shown) (List.mem_of_getElem? (i := 0) (by rfl))
  obtain ⟨_, _, _, _, _, _, _, _, _, zl_Row_head, zd_Row_head⟩ := saysD c (d := hd_Row_head) (List.mem_of_getElem? (i := 1) (by rfl))
  obtain ⟨_, _, _, _, _, _, _, _, _, zl_SetRow_init, zd_SetRow_init⟩ := saysD c (d := hd_SetRow_init) (List.mem_of_getElem? (i := 2) (by rfl))
  obtain ⟨_, _, _, _, _, _, _, _, _, zl_SetRow_told, zd_SetRow_told⟩ := saysD c (d := hd_SetRow_told) (List.mem_of_getElem? (i := 3) (by rfl))
  obtain ⟨_, _, _, _, _, _, _, _, _, zl_MakeRow_init, zd_MakeRow_init⟩ := saysD c (d := hd_MakeRow_init) (List.mem_of_getElem? (i := 4) (by rfl))
  obtain ⟨_, _, _, _, _, _, _, _, _, zl_MakeRow_told, zd_MakeRow_told⟩ := saysD c (d := hd_MakeRow_told) (List.mem_of_getElem? (i := 5) (by rfl))
  obtain ⟨_, _, _, _, _, _, _, _, _, zl_NoneRow_init, zd_NoneRow_init⟩ := saysD c (d := hd_NoneRow_init) (List.mem_of_getElem? (i := 6) (by rfl))
  obtain ⟨_, _, _, _, _, _, _, _, _, zl_NoneRow_told, zd_NoneRow_told⟩ := saysD c (d := hd_NoneRow_told) (List.mem_of_getElem? (i := 7) (by rfl))
  obtain ⟨_, _, _, _, _, _, _, _, _, zl_GiveRow_init, zd_GiveRow_init⟩ := saysD c (d := hd_GiveRow_init) (List.mem_of_getElem? (i := 8) (by rfl))
  obtain ⟨_, _, _, _, _, _, _, _, _, zl_GiveRow_told, zd_GiveRow_told⟩ := saysD c (d := hd_GiveRow_told) (List.mem_of_getElem? (i := 9) (by rfl))
  obtain ⟨_, _, _, _, _, _, _, _, _, zl_TakeRow_init, zd_TakeRow_init⟩ := saysD c (d := hd_TakeRow_init) (List.mem_of_getElem? (i := 10) (by rfl))
  obtain ⟨_, _, _, _, _, _, _, _, _, zl_TakeRow_told, zd_TakeRow_told⟩ := saysD c (d := hd_TakeRow_told) (List.mem_of_getElem? (i := 11) (by rfl))
  obtain ⟨_, _, _, _, _, _, _, _, _, zl_FillRow_init, zd_FillRow_init⟩ := saysD c (d := hd_FillRow_init) (List.mem_of_getElem? (i := 12) (by rfl))
  obtain ⟨_, _, _, _, _, _, _, _, _, zl_FillRow_told, zd_FillRow_told⟩ := saysD c (d := hd_FillRow_told) (List.mem_of_getElem? (i := 13) (by rfl))
  obtain ⟨_, _, _, _, _, _, _, _, _, zl_SwapRow_init, zd_SwapRow_init⟩ := saysD c (d := hd_SwapRow_init) (List.mem_of_getElem? (i := 14) (by rfl))
  obtain ⟨_, _, _, _, _, _, _, _, _, zl_SwapRow_told, zd_SwapRow_told⟩ := saysD c (d := hd_SwapRow_told) (List.mem_of_getElem? (i := 15) (by rfl))
  obtain ⟨_, _, _, _, _, _, _, _, _, zl_GetRow_init, zd_GetRow_init⟩ := saysD c (d := hd_GetRow_init) (List.mem_of_getElem? (i := 16) (by rfl))
  obtain ⟨_, _, _, _, _, _, _, _, _, zl_GetRow_told, zd_GetRow_told⟩ := saysD c (d := hd_GetRow_told) (List.mem_of_getElem? (i := 17) (by rfl))
  obtain ⟨_, _, _, _, _, _, _, _, _, zl_PutRow_init, zd_PutRow_init⟩ := saysD c (d := hd_PutRow_init) (List.mem_of_getElem? (i := 18) (by rfl))
  obtain ⟨_, _, _, _, _, _, _, _, _, zl_PutRow_told, zd_PutRow_told⟩ := saysD c (d := hd_PutRow_told) (List.mem_of_getElem? (i := 19) (by rfl))
  obtain ⟨_, _, _, _, _, _, _, _, _, zl_HasRow_init, zd_HasRow_init⟩ := saysD c (d := hd_HasRow_init) (List.mem_of_getElem? (i := 20) (by rfl))
  obtain ⟨_, _, _, _, _, _, _, _, _, zl_HasRow_told, zd_HasRow_told⟩ := saysD c (d := hd_HasRow_told) (List.mem_of_getElem? (i := 21) (by rfl))
  obtain ⟨_, _, _, _, _, _, _, _, _, zl_DropRow_init, zd_DropRow_init⟩ := saysD c (d := hd_DropRow_init) (List.mem_of_getElem? (i := 22) (by rfl))
  obtain ⟨_, _, _, _, _, _, _, _, _, zl_DropRow_told, zd_DropRow_told⟩ := saysD c (d := hd_DropRow_told) (List.mem_of_getElem? (i := 23) (by rfl))
  obtain ⟨_, _, _, _, _, _, _, _, _, zl_LendRow_init, zd_LendRow_init⟩ := saysD c (d := hd_LendRow_init) (List.mem_of_getElem? (i := 24) (by rfl))
  obtain ⟨_, _, _, _, _, _, _, _, _, zl_LendRow_told, zd_LendRow_told⟩ := saysD c (d := hd_LendRow_told) (List.mem_of_getElem? (i := 25) (by rfl))
  obtain ⟨_, _, _, _, _, _, _, _, _, zl_StepRow_init, zd_StepRow_init⟩ := saysD c (d := hd_StepRow_init) (List.mem_of_getElem? (i := 26) (by rfl))
  obtain ⟨_, _, _, _, _, _, _, _, _, zl_StepRow_told, zd_StepRow_told⟩ := saysD c (d := hd_StepRow_told) (List.mem_of_getElem? (i := 27) (by rfl))
  obtain ⟨_, _, _, _, _, _, _, _, _, zl_CallRow_init, zd_CallRow_init⟩ := saysD c (d := hd_CallRow_init) (List.mem_of_getElem? (i := 28) (by rfl))
  obtain ⟨_, _, _, _, _, _, _, _, _, zl_CallRow_told, zd_CallRow_told⟩ := saysD c (d := hd_CallRow_told) (List.mem_of_getElem? (i := 29) (by rfl))
  obtain ⟨_, _, _, _, _, _, _, _, _, zl_BackRow_init, zd_BackRow_init⟩ := saysD c (d := hd_BackRow_init) (List.mem_of_getElem? (i := 30) (by rfl))
  obtain ⟨_, _, _, _, _, _, _, _, _, zl_BackRow_told, zd_BackRow_told⟩ := saysD c (d := hd_BackRow_told) (List.mem_of_getElem? (i := 31) (by rfl))
  obtain ⟨_, _, _, _, _, _, _, _, _, zl_AskRow_init, zd_AskRow_init⟩ := saysD c (d := hd_AskRow_init) (List.mem_of_getElem? (i := 32) (by rfl))
  obtain ⟨_, _, _, _, _, _, _, _, _, zl_AskRow_told, zd_AskRow_told⟩ := saysD c (d := hd_AskRow_told) (List.mem_of_getElem? (i := 33) (by rfl))
  obtain ⟨_, _, _, _, _, _, _, _, _, zl_TellRow_init, zd_TellRow_init⟩ := saysD c (d := hd_TellRow_init) (List.mem_of_getElem? (i := 34) (by rfl))
  obtain ⟨_, _, _, _, _, _, _, _, _, zl_TellRow_told, zd_TellRow_told⟩ := saysD c (d := hd_TellRow_told) (List.mem_of_getElem? (i := 35) (by rfl))
  obtain ⟨_, _, _, _, _, _, _, _, _, zl_IfRow_init, zd_IfRow_init⟩ := saysD c (d := hd_IfRow_init) (List.mem_of_getElem? (i := 36) (by rfl))
  obtain ⟨_, _, _, _, _, _, _, _, _, zl_IfRow_told, zd_IfRow_told⟩ := saysD c (d := hd_IfRow_told) (List.mem_of_getElem? (i := 37) (by rfl))
  obtain ⟨_, _, _, _, _, _, _, _, _, zl_WhileRow_init, zd_WhileRow_init⟩ := saysD c (d := hd_WhileRow_init) (List.mem_of_getElem? (i := 38) (by rfl))
  obtain ⟨_, _, _, _, _, _, _, _, _, zl_WhileRow_told, zd_WhileRow_told⟩ := saysD c (d := hd_WhileRow_told) (List.mem_of_getElem? (i := 39) (by rfl))
  obtain ⟨_, _, _, _, _, _, _, _, _, zl_Record_init, zd_Record_init⟩ := saysD c (d := hd_Record_init) (List.mem_of_getElem? (i := 40) (by rfl))
  obtain ⟨_, _, _, _, _, _, _, _, _, zl_Record_told, zd_Record_told⟩ := saysD c (d := hd_Record_told) (List.mem_of_getElem? (i := 41) (by rfl))
  obtain ⟨_, _, _, _, _, _, _, _, _, zl_Helper_init, zd_Helper_init⟩ := saysD c (d := hd_Helper_init) (List.mem_of_getElem? (i := 42) (by rfl))
  obtain ⟨_, _, _, _, _, _, _, _, _, zl_Helper_told, zd_Helper_told⟩ := saysD c (d := hd_Helper_told) (List.mem_of_getElem? (i := 43) (by rfl))
  obtain ⟨_, _, _, _, _, _, _, _, _, zl_Program_init, zd_Program_init⟩ := saysD c (d := hd_Program_init) (List.mem_of_getElem? (i := 44) (by rfl))
  obtain ⟨_, _, _, _, _, _, _, _, _, zl_Program_told, zd_Program_told⟩ := saysD c (d := hd_Program_told) (List.mem_of_getElem? (i := 45) (by rfl))
  obtain ⟨_, _, _, _, _, _, _, _, _, zl_SetRow_head, zd_SetRow_head⟩ := saysD c (d := hd_SetRow_head) (List.mem_of_getElem? (i := 46) (by rfl))
  obtain ⟨_, _, _, _, _, _, _, _, _, zl_MakeRow_head, zd_MakeRow_head⟩ := saysD c (d := hd_MakeRow_head) (List.mem_of_getElem? (i := 47) (by rfl))
  obtain ⟨_, _, _, _, _, _, _, _, _, zl_HasRow_head, zd_HasRow_head⟩ := saysD c (d := hd_HasRow_head) (List.mem_of_getElem? (i := 48) (by rfl))
  obtain ⟨_, _, _, _, _, _, _, _, _, zl_CallRow_head, zd_CallRow_head⟩ := saysD c (d := hd_CallRow_head) (List.mem_of_getElem? (i := 49) (by rfl))
  obtain ⟨_, _, _, _, _, _, _, _, _, zl_IfRow_head, zd_IfRow_head⟩ := saysD c (d := hd_IfRow_head) (List.mem_of_getElem? (i := 50) (by rfl))
  obtain ⟨_, _, _, _, _, _, _, _, _, zl_WhileRow_head, zd_WhileRow_head⟩ := saysD c (d := hd_WhileRow_head) (List.mem_of_getElem? (i := 51) (by rfl))
  obtain ⟨_, _, _, _, _, _, _, _, _, zl_all_told, zd_all_told⟩ := saysD c (d := hd_all_told) (List.mem_of_getElem? (i := 52) (by rfl))
  obtain ⟨_, _, _, _, _, _, _, _, _, zl_rows_written, zd_rows_written⟩ := saysD c (d := hd_rows_written) (List.mem_of_getElem? (i := 53) (by rfl))
  obtain ⟨_, _, _, _, _, _, _, _, _, zl_record_written, zd_record_written⟩ := saysD c (d := hd_record_written) (List.mem_of_getElem? (i := 54) (by rfl))
  obtain ⟨_, _, _, _, _, _, _, _, _, zl_param_written, zd_param_written⟩ := saysD c (d := hd_param_written) (List.mem_of_getElem? (i := 55) (by rfl))
  obtain ⟨_, _, _, _, _, _, _, _, _, zl_helper_written, zd_helper_written⟩ := saysD c (d := hd_helper_written) (List.mem_of_getElem? (i := 56) (by rfl))
  obtain ⟨_, _, _, _, _, _, _, _, _, zl_written, zd_written⟩ := saysD c (d := hd_written) (List.mem_of_getElem? (i := 57) (by rfl))
  obtain ⟨_, _, _, _, _, _, _, _, _, zl_l_draw, zd_l_draw⟩ := saysD c (d := hd_l_draw) (List.mem_of_getElem? (i := 58) (by rfl))
  obtain ⟨_, _, _, _, _, _, _, _, _, zl_l_kept, zd_l_kept⟩ := saysD c (d := hd_l_kept) (List.mem_of_getElem? (i := 59) (by rfl))
  obtain ⟨_, _, _, _, _, _, _, _, _, zl_l_word, zd_l_word⟩ := saysD c (d := hd_l_word) (List.mem_of_getElem? (i := 60) (by rfl))
  obtain ⟨_, _, _, _, _, _, _, _, _, zl_l_name, zd_l_name⟩ := saysD c (d := hd_l_name) (List.mem_of_getElem? (i := 61) (by rfl))
  obtain ⟨_, _, _, _, _, _, _, _, _, zl_l_number, zd_l_number⟩ := saysD c (d := hd_l_number) (List.mem_of_getElem? (i := 62) (by rfl))
  obtain ⟨_, _, _, _, _, _, _, _, _, zl_l_atom, zd_l_atom⟩ := saysD c (d := hd_l_atom) (List.mem_of_getElem? (i := 63) (by rfl))
  obtain ⟨_, _, _, _, _, _, _, _, _, zl_l_path, zd_l_path⟩ := saysD c (d := hd_l_path) (List.mem_of_getElem? (i := 64) (by rfl))
  obtain ⟨_, _, _, _, _, _, _, _, _, zl_l_given, zd_l_given⟩ := saysD c (d := hd_l_given) (List.mem_of_getElem? (i := 65) (by rfl))
  obtain ⟨_, _, _, _, _, _, _, _, _, zl_l_plain, zd_l_plain⟩ := saysD c (d := hd_l_plain) (List.mem_of_getElem? (i := 66) (by rfl))
  obtain ⟨_, _, _, _, _, _, _, _, _, zl_l_rows, zd_l_rows⟩ := saysD c (d := hd_l_rows) (List.mem_of_getElem? (i := 67) (by rfl))
  obtain ⟨_, _, _, _, _, _, _, _, _, zl_l_kind, zd_l_kind⟩ := saysD c (d := hd_l_kind) (List.mem_of_getElem? (i := 68) (by rfl))
  obtain ⟨_, _, _, _, _, _, _, _, _, zl_l_param, zd_l_param⟩ := saysD c (d := hd_l_param) (List.mem_of_getElem? (i := 69) (by rfl))
  obtain ⟨_, _, _, _, _, _, _, _, _, zl_l_program, zd_l_program⟩ := saysD c (d := hd_l_program) (List.mem_of_getElem? (i := 70) (by rfl))
  obtain ⟨_, _, _, _, _, _, _, _, _, zl_l_box_row, zd_l_box_row⟩ := saysD c (d := hd_l_box_row) (List.mem_of_getElem? (i := 71) (by rfl))
  obtain ⟨_, _, _, _, _, _, _, _, _, zl_l_made, zd_l_made⟩ := saysD c (d := hd_l_made) (List.mem_of_getElem? (i := 72) (by rfl))
  obtain ⟨_, _, _, _, _, _, _, _, _, zl_l_made_program, zd_l_made_program⟩ := saysD c (d := hd_l_made_program) (List.mem_of_getElem? (i := 73) (by rfl))
  obtain ⟨_, _, _, _, _, _, _, _, _, zl_l_alike, zd_l_alike⟩ := saysD c (d := hd_l_alike) (List.mem_of_getElem? (i := 74) (by rfl))
  obtain ⟨_, _, _, _, _, _, _, _, _, zl_l_shown, zd_l_shown⟩ := saysD c (d := hd_l_shown) (List.mem_of_getElem? (i := 75) (by rfl))
  obtain ⟨_, _, _, _, _, _, _, _, _, zl_l_head, zd_l_head⟩ := saysD c (d := hd_l_head) (List.mem_of_getElem? (i := 76) (by rfl))
  obtain ⟨_, _, _, _, _, _, _, _, _, zl_l_lines, zd_l_lines⟩ := saysD c (d := hd_l_lines) (List.mem_of_getElem? (i := 77) (by rfl))
  obtain ⟨_, _, _, _, _, _, _, _, _, zl_l_text_lines, zd_l_text_lines⟩ := saysD c (d := hd_l_text_lines) (List.mem_of_getElem? (i := 78) (by rfl))
  obtain ⟨_, _, _, _, _, _, _, _, _, zl_law, zd_law⟩ := saysD c (d := hd_law) (List.mem_of_getElem? (i := 79) (by rfl))
  exact all_mk X G hfa (He.eqO_ok (hfact0 c 0)) (He.eqO_ok (hfact0 c 1)) (He.eqO_ok (hfact0 c 2)) (He.eqO_ok (hfact0 c 3)) (He.eqO_ok (hfact0 c 4)) (He.eqO_ok (hfact0 c 5)) (He.eqO_ok (hfact0 c 6)) (He.eqO_ok (hfact0 c 7)) (He.eqO_ok (hfact0 c 8)) (He.eqO_ok (hfact0 c 9)) (hfact0 c 10) (hfact0 c 11) (hfact0 c 12) (He.eqO_ok (hfact0 c 13)) (hfact0 c 14) (hfact0 c 15) (He.eqO_ok (hfact0 c 16)) (He.eqO_ok (hfact0 c 17)) (He.eqO_ok (hfact0 c 18)) (He.eqO_ok (hfact0 c 19)) (He.eqO_ok (hfact0 c 20)) (hfact0 c 21) (hfact0 c 22) (hfact0 c 23) (He.eqO_ok (hfact0 c 24)) (hfact1 c 0) (hfact1 c 1) (He.eqO_ok (hfact1 c 2)) (He.eqO_ok (hfact1 c 3)) (He.eqO_ok (hfact1 c 4)) (He.eqO_ok (hfact1 c 5)) (hfact1 c 6) (hfact1 c 7) (hfact1 c 8) (He.eqO_ok (hfact1 c 9)) (hfact1 c 10) (hfact1 c 11) (He.eqO_ok (hfact1 c 12)) (He.eqO_ok (hfact1 c 13)) (He.eqO_ok (hfact1 c 14)) (hfact1 c 15) (hfact1 c 16) (hfact1 c 17) (He.eqO_ok (hfact1 c 18)) (hfact1 c 19) (hfact1 c 20) (He.eqO_ok (hfact1 c 21)) (He.eqO_ok (hfact1 c 22)) (He.eqO_ok (hfact1 c 23)) (hfact1 c 24) (hfact2 c 0) (hfact2 c 1) (He.eqO_ok (hfact2 c 2)) (hfact2 c 3) (hfact2 c 4) (He.eqO_ok (hfact2 c 5)) (He.eqO_ok (hfact2 c 6)) (He.eqO_ok (hfact2 c 7)) (hfact2 c 8) (hfact2 c 9) (hfact2 c 10) (He.eqO_ok (hfact2 c 11)) (hfact2 c 12) (hfact2 c 13) (He.eqO_ok (hfact2 c 14)) (He.eqO_ok (hfact2 c 15)) (He.eqO_ok (hfact2 c 16)) (hfact2 c 17) (hfact2 c 18) (hfact2 c 19) (He.eqO_ok (hfact2 c 20)) (hfact2 c 21) (hfact2 c 22) (He.eqO_ok (hfact2 c 23)) (He.eqO_ok (hfact2 c 24)) (He.eqO_ok (hfact3 c 0)) (hfact3 c 1) (hfact3 c 2) (hfact3 c 3) (He.eqO_ok (hfact3 c 4)) (hfact3 c 5) (hfact3 c 6) (He.eqO_ok (hfact3 c 7)) (He.eqO_ok (hfact3 c 8)) (He.eqO_ok (hfact3 c 9)) (hfact3 c 10) (hfact3 c 11) (hfact3 c 12) (He.eqO_ok (hfact3 c 13)) (hfact3 c 14) (hfact3 c 15) (He.eqO_ok (hfact3 c 16)) (He.eqO_ok (hfact3 c 17)) (He.eqO_ok (hfact3 c 18)) (hfact3 c 19) (hfact3 c 20) (hfact3 c 21) (He.eqO_ok (hfact3 c 22)) (hfact3 c 23) (hfact3 c 24) (He.eqO_ok (hfact4 c 0)) (He.eqO_ok (hfact4 c 1)) (He.eqO_ok (hfact4 c 2)) (hfact4 c 3) (hfact4 c 4) (hfact4 c 5) (He.eqO_ok (hfact4 c 6)) (hfact4 c 7) (hfact4 c 8) (He.eqO_ok (hfact4 c 9)) (He.eqO_ok (hfact4 c 10)) (hfact4 c 11) (hfact4 c 12) (hfact4 c 13) (He.eqO_ok (hfact4 c 14)) (hfact4 c 15) (hfact4 c 16) (He.eqO_ok (hfact4 c 17)) (He.eqO_ok (hfact4 c 18)) (He.eqO_ok (hfact4 c 19)) (He.eqO_ok (hfact4 c 20)) (hfact4 c 21) (hfact4 c 22) (hfact4 c 23) (He.eqO_ok (hfact4 c 24)) (hfact5 c 0) (hfact5 c 1) (He.eqO_ok (hfact5 c 2)) (He.eqO_ok (hfact5 c 3)) (He.eqO_ok (hfact5 c 4)) (hfact5 c 5) (hfact5 c 6) (hfact5 c 7) (He.eqO_ok (hfact5 c 8)) (hfact5 c 9) (hfact5 c 10) (He.eqO_ok (hfact5 c 11)) (He.eqO_ok (hfact5 c 12)) (He.eqO_ok (hfact5 c 13)) (He.eqO_ok (hfact5 c 14)) (hfact5 c 15) (hfact5 c 16) (hfact5 c 17) (He.eqO_ok (hfact5 c 18)) (hfact5 c 19) (hfact5 c 20) (He.eqO_ok (hfact5 c 21)) (He.eqO_ok (hfact5 c 22)) (hfact5 c 23) (hfact5 c 24) (hfact6 c 0) (He.eqO_ok (hfact6 c 1)) (hfact6 c 2) (hfact6 c 3) (He.eqO_ok (hfact6 c 4)) (He.eqO_ok (hfact6 c 5)) (hfact6 c 6) (hfact6 c 7) (hfact6 c 8) (He.eqO_ok (hfact6 c 9)) (hfact6 c 10) (hfact6 c 11) (He.eqO_ok (hfact6 c 12)) (He.eqO_ok (hfact6 c 13)) (hfact6 c 14) (hfact6 c 15) (hfact6 c 16) (He.eqO_ok (hfact6 c 17)) (hfact6 c 18) (hfact6 c 19) (He.eqO_ok (hfact6 c 20)) (He.eqO_ok (hfact6 c 21)) (He.eqO_ok (hfact6 c 22)) (He.eqO_ok (hfact6 c 23)) (hfact6 c 24) (hfact7 c 0) (hfact7 c 1) (He.eqO_ok (hfact7 c 2)) (hfact7 c 3) (hfact7 c 4) (He.eqO_ok (hfact7 c 5)) (He.eqO_ok (hfact7 c 6)) (He.eqO_ok (hfact7 c 7)) (hfact7 c 8) (hfact7 c 9) (hfact7 c 10) (He.eqO_ok (hfact7 c 11)) (hfact7 c 12) (hfact7 c 13) (He.eqO_ok (hfact7 c 14)) (He.eqO_ok (hfact7 c 15)) (He.eqO_ok (hfact7 c 16)) (hfact7 c 17) (hfact7 c 18) (hfact7 c 19) (He.eqO_ok (hfact7 c 20)) (hfact7 c 21) (hfact7 c 22) (He.eqO_ok (hfact7 c 23)) (He.eqO_ok (hfact7 c 24)) (He.eqO_ok (hfact8 c 0)) (He.eqO_ok (hfact8 c 1)) (He.eqO_ok (hfact8 c 2)) (hfact8 c 3) (hfact8 c 4) (hfact8 c 5) (He.eqO_ok (hfact8 c 6)) (hfact8 c 7) (hfact8 c 8) (He.eqO_ok (hfact8 c 9)) (He.eqO_ok (hfact8 c 10)) (He.eqO_ok (hfact8 c 11)) (hfact8 c 12) (hfact8 c 13) (hfact8 c 14) (He.eqO_ok (hfact8 c 15)) (hfact8 c 16) (He.eqO_ok (hfact8 c 17)) zl_shown zd_shown (hfact8 c 18) (He.eqO_ok (hfact8 c 19)) (He.eqO_ok (hfact8 c 20)) (He.eqO_ok (hfact8 c 21)) (He.eqO_ok (hfact8 c 22)) (He.eqO_ok (hfact8 c 23)) (He.eqO_ok (hfact8 c 24)) (He.eqO_ok (hfact9 c 0)) (He.eqO_ok (hfact9 c 1)) (He.eqO_ok (hfact9 c 2)) (He.eqO_ok (hfact9 c 3)) (He.eqO_ok (hfact9 c 4)) (He.eqO_ok (hfact9 c 5)) (He.eqO_ok (hfact9 c 6)) (hfact9 c 7) zl_Row_head zd_Row_head (hfact9 c 8) (He.eqO_ok (hfact9 c 9)) (hfact9 c 10) zl_SetRow_init zd_SetRow_init (hfact9 c 11) (He.eqO_ok (hfact9 c 12)) (hfact9 c 13) zl_SetRow_told zd_SetRow_told (hfact9 c 14) (He.eqO_ok (hfact9 c 15)) (hfact9 c 16) zl_MakeRow_init zd_MakeRow_init (hfact9 c 17) (He.eqO_ok (hfact9 c 18)) (hfact9 c 19) zl_MakeRow_told zd_MakeRow_told (hfact9 c 20) (He.eqO_ok (hfact9 c 21)) (hfact9 c 22) zl_NoneRow_init zd_NoneRow_init (hfact9 c 23) (He.eqO_ok (hfact9 c 24)) (hfact10 c 0) zl_NoneRow_told zd_NoneRow_told (hfact10 c 1) (He.eqO_ok (hfact10 c 2)) (hfact10 c 3) zl_GiveRow_init zd_GiveRow_init (hfact10 c 4) (He.eqO_ok (hfact10 c 5)) (hfact10 c 6) zl_GiveRow_told zd_GiveRow_told (hfact10 c 7) (He.eqO_ok (hfact10 c 8)) (hfact10 c 9) zl_TakeRow_init zd_TakeRow_init (hfact10 c 10) (He.eqO_ok (hfact10 c 11)) (hfact10 c 12) zl_TakeRow_told zd_TakeRow_told (hfact10 c 13) (He.eqO_ok (hfact10 c 14)) (hfact10 c 15) zl_FillRow_init zd_FillRow_init (hfact10 c 16) (He.eqO_ok (hfact10 c 17)) (hfact10 c 18) zl_FillRow_told zd_FillRow_told (hfact10 c 19) (He.eqO_ok (hfact10 c 20)) (hfact10 c 21) zl_SwapRow_init zd_SwapRow_init (hfact10 c 22) (He.eqO_ok (hfact10 c 23)) (hfact10 c 24) zl_SwapRow_told zd_SwapRow_told (hfact11 c 0) (He.eqO_ok (hfact11 c 1)) (hfact11 c 2) zl_GetRow_init zd_GetRow_init (hfact11 c 3) (He.eqO_ok (hfact11 c 4)) (hfact11 c 5) zl_GetRow_told zd_GetRow_told (hfact11 c 6) (He.eqO_ok (hfact11 c 7)) (hfact11 c 8) zl_PutRow_init zd_PutRow_init (hfact11 c 9) (He.eqO_ok (hfact11 c 10)) (hfact11 c 11) zl_PutRow_told zd_PutRow_told (hfact11 c 12) (He.eqO_ok (hfact11 c 13)) (hfact11 c 14) zl_HasRow_init zd_HasRow_init (hfact11 c 15) (He.eqO_ok (hfact11 c 16)) (hfact11 c 17) zl_HasRow_told zd_HasRow_told (hfact11 c 18) (He.eqO_ok (hfact11 c 19)) (hfact11 c 20) zl_DropRow_init zd_DropRow_init (hfact11 c 21) (He.eqO_ok (hfact11 c 22)) (hfact11 c 23) zl_DropRow_told zd_DropRow_told (hfact11 c 24) (He.eqO_ok (hfact12 c 0)) (hfact12 c 1) zl_LendRow_init zd_LendRow_init (hfact12 c 2) (He.eqO_ok (hfact12 c 3)) (hfact12 c 4) zl_LendRow_told zd_LendRow_told (hfact12 c 5) (He.eqO_ok (hfact12 c 6)) (hfact12 c 7) zl_StepRow_init zd_StepRow_init (hfact12 c 8) (He.eqO_ok (hfact12 c 9)) (hfact12 c 10) zl_StepRow_told zd_StepRow_told (hfact12 c 11) (He.eqO_ok (hfact12 c 12)) (hfact12 c 13) zl_CallRow_init zd_CallRow_init (hfact12 c 14) (He.eqO_ok (hfact12 c 15)) (hfact12 c 16) zl_CallRow_told zd_CallRow_told (hfact12 c 17) (He.eqO_ok (hfact12 c 18)) (hfact12 c 19) zl_BackRow_init zd_BackRow_init (hfact12 c 20) (He.eqO_ok (hfact12 c 21)) (hfact12 c 22) zl_BackRow_told zd_BackRow_told (hfact12 c 23) (He.eqO_ok (hfact12 c 24)) (hfact13 c 0) zl_AskRow_init zd_AskRow_init (hfact13 c 1) (He.eqO_ok (hfact13 c 2)) (hfact13 c 3) zl_AskRow_told zd_AskRow_told (hfact13 c 4) (He.eqO_ok (hfact13 c 5)) (hfact13 c 6) zl_TellRow_init zd_TellRow_init (hfact13 c 7) (He.eqO_ok (hfact13 c 8)) (hfact13 c 9) zl_TellRow_told zd_TellRow_told (hfact13 c 10) (He.eqO_ok (hfact13 c 11)) (hfact13 c 12) zl_IfRow_init zd_IfRow_init (hfact13 c 13) (He.eqO_ok (hfact13 c 14)) (hfact13 c 15) zl_IfRow_told zd_IfRow_told (hfact13 c 16) (He.eqO_ok (hfact13 c 17)) (hfact13 c 18) zl_WhileRow_init zd_WhileRow_init (hfact13 c 19) (He.eqO_ok (hfact13 c 20)) (hfact13 c 21) zl_WhileRow_told zd_WhileRow_told (hfact13 c 22) (He.eqO_ok (hfact13 c 23)) (hfact13 c 24) zl_Record_init zd_Record_init (hfact14 c 0) (He.eqO_ok (hfact14 c 1)) (hfact14 c 2) zl_Record_told zd_Record_told (hfact14 c 3) (He.eqO_ok (hfact14 c 4)) (hfact14 c 5) zl_Helper_init zd_Helper_init (hfact14 c 6) (He.eqO_ok (hfact14 c 7)) (hfact14 c 8) zl_Helper_told zd_Helper_told (hfact14 c 9) (He.eqO_ok (hfact14 c 10)) (hfact14 c 11) zl_Program_init zd_Program_init (hfact14 c 12) (He.eqO_ok (hfact14 c 13)) (hfact14 c 14) zl_Program_told zd_Program_told (hfact14 c 15) (He.eqO_ok (hfact14 c 16)) (hfact14 c 17) zl_SetRow_head zd_SetRow_head (hfact14 c 18) (He.eqO_ok (hfact14 c 19)) (hfact14 c 20) zl_MakeRow_head zd_MakeRow_head (hfact14 c 21) (He.eqO_ok (hfact14 c 22)) (hfact14 c 23) zl_HasRow_head zd_HasRow_head (hfact14 c 24) (He.eqO_ok (hfact15 c 0)) (hfact15 c 1) zl_CallRow_head zd_CallRow_head (hfact15 c 2) (He.eqO_ok (hfact15 c 3)) (hfact15 c 4) zl_IfRow_head zd_IfRow_head (hfact15 c 5) (He.eqO_ok (hfact15 c 6)) (hfact15 c 7) zl_WhileRow_head zd_WhileRow_head (hfact15 c 8) (He.eqO_ok (hfact15 c 9)) zl_all_told zd_all_told (hfact15 c 10) (He.eqO_ok (hfact15 c 11)) zl_rows_written zd_rows_written (hfact15 c 12) (He.eqO_ok (hfact15 c 13)) zl_record_written zd_record_written (hfact15 c 14) (He.eqO_ok (hfact15 c 15)) zl_param_written zd_param_written (hfact15 c 16) (He.eqO_ok (hfact15 c 17)) zl_helper_written zd_helper_written (hfact15 c 18) (He.eqO_ok (hfact15 c 19)) zl_written zd_written (hfact15 c 20) (He.eqO_ok (hfact15 c 21)) zl_l_draw zd_l_draw (hfact15 c 22) (He.eqO_ok (hfact15 c 23)) zl_l_kept zd_l_kept (hfact15 c 24) (He.eqO_ok (hfact16 c 0)) zl_l_word zd_l_word (hfact16 c 1) (He.eqO_ok (hfact16 c 2)) zl_l_name zd_l_name (hfact16 c 3) (He.eqO_ok (hfact16 c 4)) zl_l_number zd_l_number (hfact16 c 5) (He.eqO_ok (hfact16 c 6)) zl_l_atom zd_l_atom (hfact16 c 7) (He.eqO_ok (hfact16 c 8)) zl_l_path zd_l_path (hfact16 c 9) (He.eqO_ok (hfact16 c 10)) zl_l_given zd_l_given (hfact16 c 11) (He.eqO_ok (hfact16 c 12)) zl_l_plain zd_l_plain (hfact16 c 13) (He.eqO_ok (hfact16 c 14)) zl_l_rows zd_l_rows (hfact16 c 15) (He.eqO_ok (hfact16 c 16)) zl_l_kind zd_l_kind (hfact16 c 17) (He.eqO_ok (hfact16 c 18)) zl_l_param zd_l_param (hfact16 c 19) (He.eqO_ok (hfact16 c 20)) zl_l_program zd_l_program (hfact16 c 21) (He.eqO_ok (hfact16 c 22)) zl_l_box_row zd_l_box_row (hfact16 c 23) (He.eqO_ok (hfact16 c 24)) zl_l_made zd_l_made (hfact17 c 0) (He.eqO_ok (hfact17 c 1)) zl_l_made_program zd_l_made_program (hfact17 c 2) (He.eqO_ok (hfact17 c 3)) zl_l_alike zd_l_alike (hfact17 c 4) (He.eqO_ok (hfact17 c 5)) zl_l_shown zd_l_shown (hfact17 c 6) (He.eqO_ok (hfact17 c 7)) zl_l_head zd_l_head (hfact17 c 8) (He.eqO_ok (hfact17 c 9)) zl_l_lines zd_l_lines (hfact17 c 10) (He.eqO_ok (hfact17 c 11)) zl_l_text_lines zd_l_text_lines (hfact17 c 12) (He.eqO_ok (hfact17 c 13)) zl_law zd_law (hfact17 c 14)
end My
theorem PySem.Challenge.cw_holders_k04_written_holds : PySem.Challenge.rw_holders_k04_written.Holds := by
  exact skel_end fun w K h mg fa X G hfa c => My.facts X G hfa c

