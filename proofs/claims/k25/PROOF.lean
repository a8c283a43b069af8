import PyProof.Rows.All
import Wide.All
import OpenK.AllK
import Wide.FinOn
import KE.KStateDown
import HandS.Head0
import HandS.Head1
import HandS.Head2
import HandS.HeadEnd
import HandS.HeadHook1
import HandS.ForMost
import HandS.More
import HandS.IsInst
import HandS.Strs
import HandS.SetFor
import HandS.Wide
import HandS.TupAny
import KE.KDictDisplayH
import HandS.Deep
import PySem.Challenge.RW_holders_k25_whole_what_is_run_is_a_way
set_option linter.all false
set_option Elab.async false
set_option maxRecDepth 100000
set_option maxHeartbeats 4000000
namespace My
open PySem L2
/-! ### rows as trees -/
inductive Tr where
  | tell (n : Int)
  | back
  | ife (c : Int) (a b : List Tr)
  | whl (c : Int) (a : List Tr)
mutual
def cnt : Tr → Nat
  | .tell _ => 1
  | .back => 1
  | .ife _ a b => 1 + (cnts a + cnts b)
  | .whl _ a => 1 + cnts a
def cnts : List Tr → Nat
  | [] => 0
  | t :: ts => cnt t + cnts ts
end
mutual
def dep : Tr → Nat
  | .tell _ => 0
  | .back => 0
  | .ife _ a b => 1 + max (deps a) (deps b)
  | .whl _ a => 1 + deps a
def deps : List Tr → Nat
  | [] => 0
  | t :: ts => max (dep t) (deps ts)
end
def parts : Tr → List (List Tr)
  | .ife _ a b => [a, b]
  | .whl _ a => [a]
  | _ => []
def sumc : List (List Tr) → Nat
  | [] => 0
  | p :: ps => cnts p + sumc ps
theorem cnt_parts (t : Tr) : cnt t = 1 + sumc (parts t) := by
  cases t <;> simp [cnt, parts, sumc]
theorem dep_parts {t : Tr} {p : List Tr} (h : p ∈ parts t) : deps p < dep t := by
  cases t with
  | tell n => cases h
  | back => cases h
  | ife c a b =>
    simp only [parts, List.mem_cons, List.not_mem_nil, or_false] at h
    simp only [dep]
    rcases h with e | e <;> subst e <;> omega
  | whl c a =>
    simp only [parts, List.mem_cons, List.not_mem_nil, or_false] at h
    subst h
    simp only [dep]
    omega
theorem deps_mem : ∀ {ts : List Tr} {t : Tr}, t ∈ ts → dep t ≤ deps ts
  | a :: ts, t, h => by
    simp only [deps]
    rcases List.mem_cons.mp h with e | h
    · subst e
      omega
    · have := deps_mem h
      omega
theorem cnts_append : ∀ a b : List Tr, cnts (a ++ b) = cnts a + cnts b
  | [], b => by simp [cnts]
  | t :: a, b => by
    have := cnts_append a b
    simp only [List.cons_append, cnts, this]
    omega
theorem cnts_one (t : Tr) : cnts [t] = cnt t := by simp [cnts]
theorem cnts_take {ts : List Tr} {i : Nat} {t : Tr} (h : ts[i]? = some t) : cnts (ts.take (i + 1)) = cnts (ts.take i) + cnt t := by
  rw [List.take_add_one, h, cnts_append]
  simp [cnts]
theorem cnts_split (ts : List Tr) (i : Nat) : cnts ts = cnts (ts.take i) + cnts (ts.drop i) := by
  rw [← cnts_append, List.take_append_drop]
theorem cnt_pos (t : Tr) : 1 ≤ cnt t := by
  rw [cnt_parts]
  omega
theorem len_cnts : ∀ ts : List Tr, ts.length ≤ cnts ts
  | [] => Nat.le_refl _
  | t :: ts => by
    have := len_cnts ts
    have := cnt_pos t
    simp only [List.length_cons, cnts]
    omega
theorem cnt_le_of_mem : ∀ {ts : List Tr} {t : Tr}, t ∈ ts → cnt t ≤ cnts ts
  | a :: ts, t, h => by
    simp only [cnts]
    rcases List.mem_cons.mp h with e | h
    · subst e
      omega
    · have := cnt_le_of_mem h
      omega
theorem deps_take {ts : List Tr} {n : Nat} : deps (ts.take n) ≤ deps ts := by
  induction ts generalizing n with
  | nil => simp
  | cons t ts ih =>
    cases n with
    | zero => simp [deps]
    | succ n =>
      have := ih (n := n)
      simp only [List.take_succ_cons, deps]
      omega
/-! ### followers -/
def bg (a : List Tr) (x y : Nat) : Nat := if a.isEmpty then y else x
mutual
/-- of a row at a point, by what follows it -/
def folR (e : Nat) : Tr → Nat → Nat → List (List Nat)
  | .tell _, _, af => [[af]]
  | .back, _, _ => [[e]]
  | .ife _ a b, k, af => [bg a (k + 1) af, bg b (k + 1 + cnts a) af] :: (fol e a (k + 1) af ++ fol e b (k + 1 + cnts a) af)
  | .whl _ a, k, af => [bg a (k + 1) k, af] :: fol e a (k + 1) k
def fol (e : Nat) : List Tr → Nat → Nat → List (List Nat)
  | [], _, _ => []
  | t :: ts, k, th => folR e t k (if ts.isEmpty then th else k + cnt t) ++ fol e ts (k + cnt t) th
end
mutual
theorem folR_len (e : Nat) : ∀ (t : Tr) (k af : Nat), (folR e t k af).length = cnt t
  | .tell _, _, _ => rfl
  | .back, _, _ => rfl
  | .ife _ a b, k, af => by
    simp only [folR, List.length_cons, List.length_append, fol_len e a, fol_len e b, cnt]
    omega
  | .whl _ a, k, af => by
    simp only [folR, List.length_cons, fol_len e a, cnt]
    omega
theorem fol_len (e : Nat) : ∀ (ts : List Tr) (k th : Nat), (fol e ts k th).length = cnts ts
  | [], _, _ => rfl
  | t :: ts, k, th => by
    simp only [fol, List.length_append, folR_len e t, fol_len e ts, cnts]
end
def folOf (ts : List Tr) : List (List Nat) := fol (cnts ts) ts 0 (cnts ts)
theorem folOf_len (ts : List Tr) : (folOf ts).length = cnts ts := fol_len _ _ _ _
/-- the step of the walk through rows -/
theorem fol_step {e : Nat} {ts : List Tr} {i : Nat} {t : Tr} (h : ts[i]? = some t) (k th : Nat) : fol e (ts.drop i) k th = folR e t k (if i + 1 = ts.length then th else k + cnt t) ++ fol e (ts.drop (i + 1)) (k + cnt t) th := by
  have hi := (List.getElem?_eq_some_iff.mp h).1
  have e1 : ts[i] = t := by
    rw [List.getElem?_eq_getElem hi] at h
    exact Option.some.inj h
  rw [List.drop_eq_getElem_cons hi, e1]
  simp only [fol]
  have e2 : (ts.drop (i + 1)).isEmpty = decide (i + 1 = ts.length) := by
    rw [Bool.eq_iff_iff, List.isEmpty_iff, List.drop_eq_nil_iff, decide_eq_true_iff]
    omega
  rw [e2]
  by_cases h2 : i + 1 = ts.length <;> simp [h2]
def top (i : Nat) : Stmt := PySem.Challenge.pw_holders_k25_whole_what_is_run_is_a_way.main.body.getD i (.Pass ⟨0, 0, 0, 0⟩)
abbrev s_count_of : Stmt := top 2
abbrev s_link : Stmt := top 3
abbrev s_begin_of : Stmt := top 4
abbrev s_followers_of : Stmt := top 5
abbrev s_all_told : Stmt := top 11
abbrev s_Row_inner : Stmt := inClass (top 12) 2
abbrev s_BackRow_init : Stmt := inClass (top 27) 0
abbrev s_BackRow_told : Stmt := inClass (top 27) 1
abbrev s_TellRow_init : Stmt := inClass (top 29) 0
abbrev s_TellRow_told : Stmt := inClass (top 29) 1
abbrev s_IfRow_init : Stmt := inClass (top 30) 0
abbrev s_IfRow_told : Stmt := inClass (top 30) 1
abbrev s_IfRow_inner : Stmt := inClass (top 30) 3
abbrev s_WhileRow_init : Stmt := inClass (top 31) 0
abbrev s_WhileRow_told : Stmt := inClass (top 31) 1
abbrev s_WhileRow_inner : Stmt := inClass (top 31) 3
abbrev s_rows_of : Stmt := top 32
abbrev s_block_of : Stmt := top 33
abbrev s_row_of : Stmt := top 35
abbrev s_Helper_init : Stmt := inClass (top 37) 0
abbrev s_l_cell : Stmt := top 39
abbrev s_l_mixed : Stmt := top 40
abbrev s_l_tree : Stmt := top 41
abbrev s_l_helper : Stmt := top 42
abbrev s_l_flat : Stmt := top 43
abbrev s_l_walk : Stmt := top 44
abbrev s_is_way : Stmt := top 6
abbrev s_traced : Stmt := top 7
abbrev s_nearest : Stmt := top 8
abbrev s_tracked : Stmt := top 9
abbrev s_l_bit : Stmt := top 45
abbrev s_l_run : Stmt := top 46
abbrev s_law : Stmt := top 47
theorem sc_count_of : FnScope ["rows", "many", "row", "part"] ["rows"] (defScope s_count_of) := ⟨rfl, rfl, rfl, by decide +kernel, rfl, by decide +kernel, by decide +kernel⟩
theorem sc_link : FnScope ["rows", "first", "then", "end", "found", "at", "k", "inner", "behind", "after", "other"] ["rows", "first", "then", "end", "found"] (defScope s_link) := ⟨rfl, rfl, rfl, by decide +kernel, rfl, by decide +kernel, by decide +kernel⟩
theorem sc_begin_of : FnScope ["rows", "first", "then"] ["rows", "first", "then"] (defScope s_begin_of) := ⟨rfl, rfl, rfl, by decide +kernel, rfl, by decide +kernel, by decide +kernel⟩
theorem sc_followers_of : FnScope ["helper", "found", "end", "at"] ["helper"] (defScope s_followers_of) := ⟨rfl, rfl, rfl, by decide +kernel, rfl, by decide +kernel, by decide +kernel⟩
theorem sc_all_told : FnScope ["rows", "row"] ["rows"] (defScope s_all_told) := ⟨rfl, rfl, rfl, by decide +kernel, rfl, by decide +kernel, by decide +kernel⟩
theorem sc_Row_inner : FnScope ["self"] ["self"] (defScope s_Row_inner) := ⟨rfl, rfl, rfl, by decide +kernel, rfl, by decide +kernel, by decide +kernel⟩
theorem sc_BackRow_init : FnScope ["self", "atom"] ["self", "atom"] (defScope s_BackRow_init) := ⟨rfl, rfl, rfl, by decide +kernel, rfl, by decide +kernel, by decide +kernel⟩
theorem sc_BackRow_told : FnScope ["self"] ["self"] (defScope s_BackRow_told) := ⟨rfl, rfl, rfl, by decide +kernel, rfl, by decide +kernel, by decide +kernel⟩
theorem sc_TellRow_init : FnScope ["self", "atom"] ["self", "atom"] (defScope s_TellRow_init) := ⟨rfl, rfl, rfl, by decide +kernel, rfl, by decide +kernel, by decide +kernel⟩
theorem sc_TellRow_told : FnScope ["self"] ["self"] (defScope s_TellRow_told) := ⟨rfl, rfl, rfl, by decide +kernel, rfl, by decide +kernel, by decide +kernel⟩
theorem sc_IfRow_init : FnScope ["self", "atom", "rows", "others"] ["self", "atom", "rows", "others"] (defScope s_IfRow_init) := ⟨rfl, rfl, rfl, by decide +kernel, rfl, by decide +kernel, by decide +kernel⟩
theorem sc_IfRow_told : FnScope ["self"] ["self"] (defScope s_IfRow_told) := ⟨rfl, rfl, rfl, by decide +kernel, rfl, by decide +kernel, by decide +kernel⟩
theorem sc_IfRow_inner : FnScope ["self"] ["self"] (defScope s_IfRow_inner) := ⟨rfl, rfl, rfl, by decide +kernel, rfl, by decide +kernel, by decide +kernel⟩
theorem sc_WhileRow_init : FnScope ["self", "atom", "rows"] ["self", "atom", "rows"] (defScope s_WhileRow_init) := ⟨rfl, rfl, rfl, by decide +kernel, rfl, by decide +kernel, by decide +kernel⟩
theorem sc_WhileRow_told : FnScope ["self"] ["self"] (defScope s_WhileRow_told) := ⟨rfl, rfl, rfl, by decide +kernel, rfl, by decide +kernel, by decide +kernel⟩
theorem sc_WhileRow_inner : FnScope ["self"] ["self"] (defScope s_WhileRow_inner) := ⟨rfl, rfl, rfl, by decide +kernel, rfl, by decide +kernel, by decide +kernel⟩
theorem sc_rows_of : FnScope ["some", "told"] ["some"] (defScope s_rows_of) := ⟨rfl, rfl, rfl, by decide +kernel, rfl, by decide +kernel, by decide +kernel⟩
theorem sc_block_of : FnScope ["told"] ["told"] (defScope s_block_of) := ⟨rfl, rfl, rfl, by decide +kernel, rfl, by decide +kernel, by decide +kernel⟩
theorem sc_row_of : FnScope ["told", "word"] ["told"] (defScope s_row_of) := ⟨rfl, rfl, rfl, by decide +kernel, rfl, by decide +kernel, by decide +kernel⟩
theorem sc_Helper_init : FnScope ["self", "name", "params", "gives", "rows"] ["self", "name", "params", "gives", "rows"] (defScope s_Helper_init) := ⟨rfl, rfl, rfl, by decide +kernel, rfl, by decide +kernel, by decide +kernel⟩
theorem sc_l_cell : FnScope ["_law_script", "_law_k", "_law_cell_here", "_law_mark"] ["_law_script", "_law_k"] (defScope s_l_cell) := ⟨rfl, rfl, rfl, by decide +kernel, rfl, by decide +kernel, by decide +kernel⟩
theorem sc_l_mixed : FnScope ["_law_cell_here", "_law_k", "_law_mark"] ["_law_cell_here", "_law_k"] (defScope s_l_mixed) := ⟨rfl, rfl, rfl, by decide +kernel, rfl, by decide +kernel, by decide +kernel⟩
theorem sc_l_tree : FnScope ["_law_cell_here", "_law_deep", "_law_many", "_law_rows", "_law_k", "_law_rest", "_law_way", "_law_inner"] ["_law_cell_here", "_law_deep", "_law_many"] (defScope s_l_tree) := ⟨rfl, rfl, rfl, by decide +kernel, rfl, by decide +kernel, by decide +kernel⟩
theorem sc_l_helper : FnScope ["_law_rows", "_law_row"] ["_law_rows"] (defScope s_l_helper) := ⟨rfl, rfl, rfl, by decide +kernel, rfl, by decide +kernel, by decide +kernel⟩
theorem sc_l_flat : FnScope ["_law_rows", "_law_found", "_law_row", "_law_part"] ["_law_rows"] (defScope s_l_flat) := ⟨rfl, rfl, rfl, by decide +kernel, rfl, by decide +kernel, by decide +kernel⟩
theorem sc_l_walk : FnScope ["_law_script", "_law_rows"] ["_law_script"] (defScope s_l_walk) := ⟨rfl, rfl, rfl, by decide +kernel, rfl, by decide +kernel, by decide +kernel⟩
theorem sc_is_way : FnScope ["helper", "points", "followers", "end", "point", "one", "other"] ["helper", "points"] (defScope s_is_way) := ⟨rfl, rfl, rfl, by decide +kernel, rfl, by decide +kernel, by decide +kernel⟩
theorem sc_traced : FnScope ["before", "knot", "found"] ["before", "knot"] (defScope s_traced) := ⟨rfl, rfl, rfl, by decide +kernel, rfl, by decide +kernel, by decide +kernel⟩
theorem sc_nearest : FnScope ["helper", "first", "last", "followers", "before", "line", "later", "knot", "point"] ["helper", "first", "last"] (defScope s_nearest) := ⟨rfl, rfl, rfl, by decide +kernel, rfl, by decide +kernel, by decide +kernel⟩
theorem sc_tracked : FnScope ["helper", "turns", "state", "last", "due", "followers", "begin", "before", "line", "later", "knot", "point", "there"] ["helper", "turns", "state", "last", "due"] (defScope s_tracked) := ⟨rfl, rfl, rfl, by decide +kernel, rfl, by decide +kernel, by decide +kernel⟩
theorem sc_l_bit : FnScope ["_law_bits"] ["_law_bits"] (defScope s_l_bit) := ⟨rfl, rfl, rfl, by decide +kernel, rfl, by decide +kernel, by decide +kernel⟩
theorem sc_l_run : FnScope ["_law_rows", "_law_first", "_law_bits", "_law_found", "_law_at", "_law_row", "_law_bit_here", "_law_inner"] ["_law_rows", "_law_first", "_law_bits", "_law_found"] (defScope s_l_run) := ⟨rfl, rfl, rfl, by decide +kernel, rfl, by decide +kernel, by decide +kernel⟩
theorem sc_law : FnScope ["_law_script", "_law_rows", "_law_helper_here", "_law_followers", "_law_k", "_law_bits", "_law_found", "_law_line", "_law_near", "_law_kept", "_law_point", "_law_bit_here"] ["_law_script"] (defScope s_law) := ⟨rfl, rfl, rfl, by decide +kernel, rfl, by decide +kernel, by decide +kernel⟩
structure Tx (K : PySem.W.Frag) (mg : Str → Option Value) where
  n_range : mg "range" = none
  n_len : mg "len" = none
  n_tuple : mg "tuple" = none
  n_divmod : mg "divmod" = none
  n_int : mg "int" = none
  n_zip : mg "zip" = none
  a_BackRow : Addr
  c_BackRow : mg "BackRow" = some (.ref a_BackRow)
  cl_BackRow : Cls K a_BackRow
  na_BackRow_atom : NoAttr K a_BackRow "atom"
  a_TellRow : Addr
  c_TellRow : mg "TellRow" = some (.ref a_TellRow)
  cl_TellRow : Cls K a_TellRow
  na_TellRow_atom : NoAttr K a_TellRow "atom"
  a_IfRow : Addr
  c_IfRow : mg "IfRow" = some (.ref a_IfRow)
  cl_IfRow : Cls K a_IfRow
  na_IfRow_atom : NoAttr K a_IfRow "atom"
  na_IfRow_rows : NoAttr K a_IfRow "rows"
  na_IfRow_others : NoAttr K a_IfRow "others"
  a_WhileRow : Addr
  c_WhileRow : mg "WhileRow" = some (.ref a_WhileRow)
  cl_WhileRow : Cls K a_WhileRow
  na_WhileRow_atom : NoAttr K a_WhileRow "atom"
  na_WhileRow_rows : NoAttr K a_WhileRow "rows"
  a_Helper : Addr
  c_Helper : mg "Helper" = some (.ref a_Helper)
  cl_Helper : Cls K a_Helper
  na_Helper_name : NoAttr K a_Helper "name"
  na_Helper_params : NoAttr K a_Helper "params"
  na_Helper_gives : NoAttr K a_Helper "gives"
  na_Helper_rows : NoAttr K a_Helper "rows"
  f_count_of : Addr
  d_count_of : FuncData
  F_count_of : Fun K "count_of" "count_of" s_count_of f_count_of d_count_of
  B_count_of : Binds K d_count_of ["rows"] []
  m_count_of : mg "count_of" = some (.ref f_count_of)
  f_link : Addr
  d_link : FuncData
  F_link : Fun K "link" "link" s_link f_link d_link
  B_link : Binds K d_link ["rows", "first", "then", "end", "found"] []
  m_link : mg "link" = some (.ref f_link)
  f_begin_of : Addr
  d_begin_of : FuncData
  F_begin_of : Fun K "begin_of" "begin_of" s_begin_of f_begin_of d_begin_of
  B_begin_of : Binds K d_begin_of ["rows", "first", "then"] []
  m_begin_of : mg "begin_of" = some (.ref f_begin_of)
  f_followers_of : Addr
  d_followers_of : FuncData
  F_followers_of : Fun K "followers_of" "followers_of" s_followers_of f_followers_of d_followers_of
  B_followers_of : Binds K d_followers_of ["helper"] []
  m_followers_of : mg "followers_of" = some (.ref f_followers_of)
  f_all_told : Addr
  d_all_told : FuncData
  F_all_told : Fun K "all_told" "all_told" s_all_told f_all_told d_all_told
  B_all_told : Binds K d_all_told ["rows"] []
  m_all_told : mg "all_told" = some (.ref f_all_told)
  f_Row_inner : Addr
  d_Row_inner : FuncData
  F_Row_inner : Fun K "inner" "Row.inner" s_Row_inner f_Row_inner d_Row_inner
  B_Row_inner : Binds K d_Row_inner ["self"] []
  f_BackRow_init : Addr
  d_BackRow_init : FuncData
  F_BackRow_init : Fun K "__init__" "BackRow.__init__" s_BackRow_init f_BackRow_init d_BackRow_init
  B_BackRow_init : Binds K d_BackRow_init ["self", "atom"] []
  Mk_BackRow : Mk K a_BackRow f_BackRow_init
  f_BackRow_told : Addr
  d_BackRow_told : FuncData
  F_BackRow_told : Fun K "told" "BackRow.told" s_BackRow_told f_BackRow_told d_BackRow_told
  B_BackRow_told : Binds K d_BackRow_told ["self"] []
  f_TellRow_init : Addr
  d_TellRow_init : FuncData
  F_TellRow_init : Fun K "__init__" "TellRow.__init__" s_TellRow_init f_TellRow_init d_TellRow_init
  B_TellRow_init : Binds K d_TellRow_init ["self", "atom"] []
  Mk_TellRow : Mk K a_TellRow f_TellRow_init
  f_TellRow_told : Addr
  d_TellRow_told : FuncData
  F_TellRow_told : Fun K "told" "TellRow.told" s_TellRow_told f_TellRow_told d_TellRow_told
  B_TellRow_told : Binds K d_TellRow_told ["self"] []
  f_IfRow_init : Addr
  d_IfRow_init : FuncData
  F_IfRow_init : Fun K "__init__" "IfRow.__init__" s_IfRow_init f_IfRow_init d_IfRow_init
  B_IfRow_init : Binds K d_IfRow_init ["self", "atom", "rows", "others"] []
  Mk_IfRow : Mk K a_IfRow f_IfRow_init
  f_IfRow_told : Addr
  d_IfRow_told : FuncData
  F_IfRow_told : Fun K "told" "IfRow.told" s_IfRow_told f_IfRow_told d_IfRow_told
  B_IfRow_told : Binds K d_IfRow_told ["self"] []
  f_IfRow_inner : Addr
  d_IfRow_inner : FuncData
  F_IfRow_inner : Fun K "inner" "IfRow.inner" s_IfRow_inner f_IfRow_inner d_IfRow_inner
  B_IfRow_inner : Binds K d_IfRow_inner ["self"] []
  f_WhileRow_init : Addr
  d_WhileRow_init : FuncData
  F_WhileRow_init : Fun K "__init__" "WhileRow.__init__" s_WhileRow_init f_WhileRow_init d_WhileRow_init
  B_WhileRow_init : Binds K d_WhileRow_init ["self", "atom", "rows"] []
  Mk_WhileRow : Mk K a_WhileRow f_WhileRow_init
  f_WhileRow_told : Addr
  d_WhileRow_told : FuncData
  F_WhileRow_told : Fun K "told" "WhileRow.told" s_WhileRow_told f_WhileRow_told d_WhileRow_told
  B_WhileRow_told : Binds K d_WhileRow_told ["self"] []
  f_WhileRow_inner : Addr
  d_WhileRow_inner : FuncData
  F_WhileRow_inner : Fun K "inner" "WhileRow.inner" s_WhileRow_inner f_WhileRow_inner d_WhileRow_inner
  B_WhileRow_inner : Binds K d_WhileRow_inner ["self"] []
  f_rows_of : Addr
  d_rows_of : FuncData
  F_rows_of : Fun K "rows_of" "rows_of" s_rows_of f_rows_of d_rows_of
  B_rows_of : Binds K d_rows_of ["some"] []
  m_rows_of : mg "rows_of" = some (.ref f_rows_of)
  f_block_of : Addr
  d_block_of : FuncData
  F_block_of : Fun K "block_of" "block_of" s_block_of f_block_of d_block_of
  B_block_of : Binds K d_block_of ["told"] []
  m_block_of : mg "block_of" = some (.ref f_block_of)
  f_row_of : Addr
  d_row_of : FuncData
  F_row_of : Fun K "row_of" "row_of" s_row_of f_row_of d_row_of
  B_row_of : Binds K d_row_of ["told"] []
  m_row_of : mg "row_of" = some (.ref f_row_of)
  f_Helper_init : Addr
  d_Helper_init : FuncData
  F_Helper_init : Fun K "__init__" "Helper.__init__" s_Helper_init f_Helper_init d_Helper_init
  B_Helper_init : Binds K d_Helper_init ["self", "name", "params", "gives", "rows"] []
  Mk_Helper : Mk K a_Helper f_Helper_init
  f_l_cell : Addr
  d_l_cell : FuncData
  F_l_cell : Fun K "_law_cell" "_law_cell" s_l_cell f_l_cell d_l_cell
  B_l_cell : Binds K d_l_cell ["_law_script", "_law_k"] []
  m_l_cell : mg "_law_cell" = some (.ref f_l_cell)
  f_l_mixed : Addr
  d_l_mixed : FuncData
  F_l_mixed : Fun K "_law_mixed" "_law_mixed" s_l_mixed f_l_mixed d_l_mixed
  B_l_mixed : Binds K d_l_mixed ["_law_cell_here", "_law_k"] []
  m_l_mixed : mg "_law_mixed" = some (.ref f_l_mixed)
  f_l_tree : Addr
  d_l_tree : FuncData
  F_l_tree : Fun K "_law_tree" "_law_tree" s_l_tree f_l_tree d_l_tree
  B_l_tree : Binds K d_l_tree ["_law_cell_here", "_law_deep", "_law_many"] []
  m_l_tree : mg "_law_tree" = some (.ref f_l_tree)
  f_l_helper : Addr
  d_l_helper : FuncData
  F_l_helper : Fun K "_law_helper" "_law_helper" s_l_helper f_l_helper d_l_helper
  B_l_helper : Binds K d_l_helper ["_law_rows"] []
  m_l_helper : mg "_law_helper" = some (.ref f_l_helper)
  f_l_flat : Addr
  d_l_flat : FuncData
  F_l_flat : Fun K "_law_flat" "_law_flat" s_l_flat f_l_flat d_l_flat
  B_l_flat : Binds K d_l_flat ["_law_rows"] []
  m_l_flat : mg "_law_flat" = some (.ref f_l_flat)
  f_l_walk : Addr
  d_l_walk : FuncData
  F_l_walk : Fun K "_law_walk" "_law_walk" s_l_walk f_l_walk d_l_walk
  B_l_walk : Binds K d_l_walk ["_law_script"] []
  m_l_walk : mg "_law_walk" = some (.ref f_l_walk)
  f_is_way : Addr
  d_is_way : FuncData
  F_is_way : Fun K "is_way" "is_way" s_is_way f_is_way d_is_way
  B_is_way : Binds K d_is_way ["helper", "points"] []
  m_is_way : mg "is_way" = some (.ref f_is_way)
  f_traced : Addr
  d_traced : FuncData
  F_traced : Fun K "traced" "traced" s_traced f_traced d_traced
  B_traced : Binds K d_traced ["before", "knot"] []
  m_traced : mg "traced" = some (.ref f_traced)
  f_nearest : Addr
  d_nearest : FuncData
  F_nearest : Fun K "nearest" "nearest" s_nearest f_nearest d_nearest
  B_nearest : Binds K d_nearest ["helper", "first", "last"] []
  m_nearest : mg "nearest" = some (.ref f_nearest)
  f_tracked : Addr
  d_tracked : FuncData
  F_tracked : Fun K "tracked" "tracked" s_tracked f_tracked d_tracked
  B_tracked : Binds K d_tracked ["helper", "turns", "state", "last", "due"] []
  m_tracked : mg "tracked" = some (.ref f_tracked)
  f_l_bit : Addr
  d_l_bit : FuncData
  F_l_bit : Fun K "_law_bit" "_law_bit" s_l_bit f_l_bit d_l_bit
  B_l_bit : Binds K d_l_bit ["_law_bits"] []
  m_l_bit : mg "_law_bit" = some (.ref f_l_bit)
  f_l_run : Addr
  d_l_run : FuncData
  F_l_run : Fun K "_law_run" "_law_run" s_l_run f_l_run d_l_run
  B_l_run : Binds K d_l_run ["_law_rows", "_law_first", "_law_bits", "_law_found"] []
  m_l_run : mg "_law_run" = some (.ref f_l_run)
  f_law : Addr
  d_law : FuncData
  F_law : Fun K "law" "law" s_law f_law d_law
  B_law : Binds K d_law ["_law_script"] []
  m_law : mg "law" = some (.ref f_law)
  M_BackRow_told : Meth K a_BackRow "told" f_BackRow_told
  M_BackRow_inner : Meth K a_BackRow "inner" f_Row_inner
  M_TellRow_told : Meth K a_TellRow "told" f_TellRow_told
  M_TellRow_inner : Meth K a_TellRow "inner" f_Row_inner
  M_IfRow_told : Meth K a_IfRow "told" f_IfRow_told
  M_IfRow_inner : Meth K a_IfRow "inner" f_IfRow_inner
  M_WhileRow_told : Meth K a_WhileRow "told" f_WhileRow_told
  M_WhileRow_inner : Meth K a_WhileRow "inner" f_WhileRow_inner
theorem cmR {i j : Int} (h0 : -1000000000000 < j) (h1 : j < 1000000000000) : CMul i j := by
  have e : (2 : Int) ^ 64 = 18446744073709551616 := by decide
  exact .inr ⟨by rw [e]; omega, by rw [e]; omega⟩
theorem cmL {i j : Int} (h0 : -1000000000000 < i) (h1 : i < 1000000000000) : CMul i j := by
  have e : (2 : Int) ^ 64 = 18446744073709551616 := by decide
  exact .inl ⟨by rw [e]; omega, by rw [e]; omega⟩
theorem dvW {i j : Int} (h0 : 0 < j) (h1 : j < 1000000000000) : CDivW i j := wide_div h0 (b := 40) (by
  have e : (2 : Nat) ^ 40 = 1099511627776 := by decide
  rw [e]
  omega) (by decide) (by decide)
theorem ints_at {ns : List Int} {k : Nat} {z : Int} (h : ns[k]? = some z) : atI (ns.map V.int) (k : Int) = some (.int z) := atI_nat (by rw [List.getElem?_map, h]; rfl)
/-! ### data that is compared -/
theorem dpInts {K : PySem.W.Frag} {H : Hp} : ∀ ns : List Int, DpAll K H (ns.map V.int) (ns.map PyData.int)
  | [] => .nil
  | n :: ns => .cons (.int n) (dpInts ns)
theorem dpIntL {K : PySem.W.Frag} {H : Hp} {a : Addr} {ns : List Int} (h : SqL K H a (ns.map V.int)) : Dp K H (.ref a) (.list (ns.map PyData.int)) := .lst h (dpInts ns)
theorem layInts : ∀ ns : List Int, PyData.canLayAll0 (ns.map PyData.int) = true
  | [] => by simp [PyData.canLayAll0]
  | n :: ns => by simp [PyData.canLayAll0, PyData.canLay0, layInts ns]
theorem deepInts : ∀ ns : List Int, PyData.depthAll (ns.map PyData.int) ≤ 1
  | [] => by simp [PyData.depthAll]
  | n :: ns => by
    have := deepInts ns
    simp only [List.map_cons, PyData.depthAll, PyData.depth]
    omega
theorem shapedOf {d : PyData} (h : d.canLay0 = true) (h2 : d.depth ≤ 64) : SeqAt.shaped d = true := by
  unfold SeqAt.shaped
  rw [h, decide_eq_true h2] <;> rfl
theorem shInts (ns : List Int) : SeqAt.shaped (.list (ns.map PyData.int)) = true := shapedOf (by simp only [PyData.canLay0]; exact layInts ns) (by
  have := deepInts ns
  simp only [PyData.depth]
  omega)
theorem eqvAllInts : ∀ ns ms : List Int, PyData.eqvAll (ns.map PyData.int) (ms.map PyData.int) = decide (ns = ms)
  | [], [] => by simp [PyData.eqvAll]
  | [], m :: ms => by simp [PyData.eqvAll]
  | n :: ns, [] => by simp [PyData.eqvAll]
  | n :: ns, m :: ms => by
    have e := eqvAllInts ns ms
    simp only [List.map_cons, PyData.eqvAll, PyData.eqv, e]
    by_cases h : n = m <;> by_cases h2 : ns = ms <;> simp [h, h2]
theorem eqvInts (ns ms : List Int) : PyData.eqv (.list (ns.map PyData.int)) (.list (ms.map PyData.int)) = decide (ns = ms) := by
  rw [PyData.eqv]
  exact eqvAllInts ns ms
/-! ### tests whose outcome is known, heaps that stay -/
theorem iteDF {c A B : Prop} [Decidable c] (hc : ¬ c) (h : B) : if decide c = true then A else B := by
  rw [decide_eq_false hc]
  exact iteF h
theorem iteDT {c A B : Prop} [Decidable c] (hc : c) (h : A) : if decide c = true then A else B := by
  rw [decide_eq_true hc]
  exact iteT h
theorem iteBF {b : Bool} {A B : Prop} (hb : b = false) (h : B) : if b = true then A else B := by
  subst hb
  exact iteF h
theorem iteBT {b : Bool} {A B : Prop} (hb : b = true) (h : A) : if b = true then A else B := by
  subst hb
  exact iteT h
theorem same_upd {H : Hp} {a : Addr} {o : HO} (h : H a = none) : Same H (upd H a o) := fun b u e => by
  rw [upd_ne (ne_of_none e h)]
  exact e
theorem same_updT {H H' : Hp} {a : Addr} {o : HO} (s : Same H H') (h : H a = none) : Same H (upd H' a o) := fun b u e => by
  rw [upd_ne (ne_of_none e h)]
  exact s b u e
theorem sameT {K : PySem.W.Frag} {H H' : Hp} {a : Addr} {xs : List V} (e : Same H H') (h : SqT K H a xs) : SqT K H' a xs := by
  rcases h with (h | ⟨o, h⟩) | h
  · exact .inl (.inl (e _ _ h))
  · exact .inl (.inr ⟨o, e _ _ h⟩)
  · exact .inr h
theorem cut_hi (xs : List V) (n : Nat) : cutV xs none (some (n : Int)) = xs.take n := by
  unfold cutV
  rw [HT.sIx_none, HT.sIx_nat, List.drop_zero, Nat.sub_zero, ← List.take_eq_take_min]
theorem cut_lo (xs : List V) (n : Nat) : cutV xs (some (n : Int)) none = xs.drop n := by
  unfold cutV
  rw [HT.sIx_none, HT.sIx_nat]
  by_cases h : n ≤ xs.length
  · rw [Nat.min_eq_left h, ← List.length_drop, List.take_length]
  · rw [Nat.min_eq_right (by omega), List.drop_eq_nil_of_le (by omega : xs.length ≤ xs.length), List.drop_eq_nil_of_le (by omega : xs.length ≤ n)]
    simp
theorem inInts (z : Int) (l : List Int) : inV (.int z) (l.map V.int) = decide (z ∈ l) := by
  unfold inV
  rw [List.any_map, Bool.eq_iff_iff]
  simp only [List.any_eq_true, Function.comp, eqV, beq_iff_eq, decide_eq_true_eq]
  exact ⟨fun ⟨x, h, e⟩ => e ▸ h, fun h => ⟨z, h, rfl⟩⟩
theorem flatInts (l : List Int) : (l.map V.int).all flatV = true := by
  rw [List.all_map, List.all_eq_true]
  intro _ _
  rfl
/-! ### rules that speak of the written part, with it by name (within comprehensions) -/
section
variable {X : Cx} {K : PySem.W.Frag}
theorem len_seqK (h : X.K = K) : CallR X (.builtin "len") (fun xs H Q => ∃ p ys, xs = [.ref p] ∧ (SqL K H p ys ∨ SqT K H p ys) ∧ Q (.int ys.length) H) := by
  subst h
  exact call_len_seq
theorem list_ofK (h : X.K = K) : CallR X (.type "list") (fun xs H Q => ∃ p ys, xs = [.ref p] ∧ (SqL K H p ys ∨ SqT K H p ys) ∧ ∀ l, H l = none → Q (.ref l) (upd H l (.lst ys))) := by
  subst h
  exact call_list_of
theorem tuple_ofK (h : X.K = K) : CallR X (.type "tuple") (fun xs H Q => ∃ p ys, xs = [.ref p] ∧ ((SqL K H p ys ∧ ∀ l, H l = none → Q (.ref l) (upd H l (.tup ys))) ∨ (SqT K H p ys ∧ Q (.ref p) H))) := by
  subst h
  exact call_tuple_of
theorem in_seqK (h : X.K = K) : OpR X (compareOp .In) (rIn K false) := by
  subst h
  exact op_in_seq
theorem notIn_seqK (h : X.K = K) : OpR X (compareOp .NotIn) (rIn K true) := by
  subst h
  exact op_notIn_seq
theorem eqDK (h : X.K = K) (hu : X.A.units + 64 < cLine) : OpR X (compareOp .Eq) (rEqD K) := by
  subst h
  exact op_eqD hu
theorem neDK (h : X.K = K) (hu : X.A.units + 64 < cLine) : OpR X (compareOp .NotEq) (rNeD K) := by
  subst h
  exact op_neD hu
theorem ix_listK (h : X.K = K) : IxR X (rIxL K) := by
  subst h
  exact ix_list
theorem ix_tupK (h : X.K = K) : IxR X (rIxT K) := by
  subst h
  exact ix_tup
end
section
variable {X : Cx} {K : PySem.W.Frag} {o e : Expr} {f : Str} {pos : Pos} {ta : TE} {tg : Expr}
theorem fldK (h : X.K = K) (he : PE X e ta) (hb : attributeBase e f X.env (eval e X.env) = eval e X.env) : PE X (.Attribute e f pos) (tFld K ta f) := by
  subst h
  exact pe_fld he hb
theorem sl_listK (h : X.K = K) : SlR X (rSlL K) := by
  subst h
  exact sl_list
theorem sl_tupAK (h : X.K = K) : SlR X (rSlA K) := by
  subst h
  exact sl_tupA
theorem catAK (h : X.K = K) : OpR X (binaryOp .Add) (rCatA K) := by
  subst h
  exact op_catA
theorem isiK (h : X.K = K) : CallR X (.builtin "isinstance") (rIsi K) := by
  subst h
  exact call_isi
theorem pi_tupK (h : X.K = K) (he : PE X e ta) : PI X tg e (iTup K ta) := by
  subst h
  exact pi_tup he
theorem pi_listK (h : X.K = K) (he : PE X e ta) : PI X tg e (iList K ta) := by
  subst h
  exact pi_list he
/-- one of two readings -/
def tAlt (t u : TE) : TE := fun σ H Q => t σ H Q ∨ u σ H Q
theorem peAlt {t u : TE} (h1 : PE X e t) (h2 : PE X e u) : PE X e (tAlt t u) :=
  ⟨fun pins s σ H Q I h => h.elim (h1.run pins s σ H Q I) (h2.run pins s σ H Q I)⟩
end
theorem putF_len {f : Str} {v : V} : ∀ fs : List (Str × V), (putF f v fs).length ≤ fs.length + 1
  | [] => Nat.le_refl _
  | (g, x) :: r => by
    show (if g = f then (g, v) :: r else (g, x) :: putF f v r).length ≤ _
    split
    · simp
    · have := putF_len (f := f) (v := v) r
      simp only [List.length_cons]
      omega
theorem same_made {H : Hp} {x dx C : Addr} {fs : List (Str × V)} (nx : H x = none) (nd : H dx = none) : Same H (upd (upd H dx (.own x)) x (.ins C dx fs)) := fun b o e => by
  rw [upd_ne (ne_of_none e nx), upd_ne (ne_of_none e nd)]
  exact e
/-- what stands, but one object -/
def SameBut (p : Addr) (H H' : Hp) : Prop := ∀ b o, H b = some o → b ≠ p → H' b = some o
theorem SameBut.made {H H2 : Hp} {x dx C : Addr} {fs : List (Str × V)} (s : SameBut x (upd (upd H dx (.own x)) x (.ins C dx fs)) H2) (nx : H x = none) (nd : H dx = none) : Same H H2 := fun b o e =>
  s b o (same_made nx nd b o e) (ne_of_none e nx)
local macro_rules | `(tactic| walk_at "flook") => `(tactic| (repeat (first | rw [lookup_putF, if_pos rfl] | rw [lookup_putF, if_neg (by decide +kernel)])))
theorem yes {σ : St} {H : Hp} {Q : Bool → Hp → Prop} (h : Q true H) : tYes σ H Q := h
theorem noPart {σ : St} {H : Hp} {Q : Option Int → Hp → Prop} (h : Q none H) : tNoPart σ H Q := h
/-! ### trees in the heap -/
theorem fresh {H H' : Hp} {p : Addr} {o : HO} (hp : H p = none) (e : upd H p o = H') : Same H H' ∧ H' p = some o := by
  subst e
  exact ⟨same_upd hp, upd_same⟩
def still : HO → Prop
  | .tup _ => True
  | .ins _ _ _ => True
  | _ => False
/-- tuples and instances stay -/
def Keep (H H' : Hp) : Prop := ∀ b o, H b = some o → still o → H' b = some o
theorem Keep.of {H H' : Hp} (s : Same H H') : Keep H H' := fun b o e _ => s b o e
theorem Keep.but {H H' : Hp} {f : Addr} {kvs : List (Key × V)} (s : SameBut f H H') (hf : H f = some (.dK kvs)) : Keep H H' := fun b o e st => s b o e (by
  intro q
  subst q
  rw [hf] at e
  cases e
  exact st)
theorem Keep.butL {H H' : Hp} {f : Addr} {xs : List V} (s : SameBut f H H') (hf : H f = some (.lst xs)) : Keep H H' := fun b o e st => s b o e (by
  intro q
  subst q
  rw [hf] at e
  cases e
  exact st)
theorem Keep.trans {H H1 H2 : Hp} (a : Keep H H1) (b : Keep H1 H2) : Keep H H2 := fun p o e st => b p o (a p o e st) st
mutual
/-- as it tells itself -/
def TellAt (H : Hp) : Tr → V → Prop
  | .tell n, v => ∃ p, v = .ref p ∧ H p = some (.tup [.str "tell", .int n])
  | .back, v => ∃ p, v = .ref p ∧ H p = some (.tup [.str "back", .int 1])
  | .ife c a b, v => ∃ p pa pb va vb, v = .ref p ∧ H p = some (.tup [.str "if", .int c, .ref pa, .ref pb]) ∧ H pa = some (.tup va) ∧ H pb = some (.tup vb) ∧ TellsAt H a va ∧ TellsAt H b vb
  | .whl c a, v => ∃ p pa va, v = .ref p ∧ H p = some (.tup [.str "while", .int c, .ref pa]) ∧ H pa = some (.tup va) ∧ TellsAt H a va
def TellsAt (H : Hp) : List Tr → List V → Prop
  | [], vs => vs = []
  | t :: ts, vs => ∃ v r, vs = v :: r ∧ TellAt H t v ∧ TellsAt H ts r
end
mutual
theorem TellAt.keep {H H' : Hp} (k : Keep H H') : ∀ {t : Tr} {v : V}, TellAt H t v → TellAt H' t v
  | .tell _, _, ⟨p, e, h⟩ => ⟨p, e, k _ _ h trivial⟩
  | .back, _, ⟨p, e, h⟩ => ⟨p, e, k _ _ h trivial⟩
  | .ife _ _ _, _, ⟨p, pa, pb, va, vb, e, h, h1, h2, h3, h4⟩ => ⟨p, pa, pb, va, vb, e, k _ _ h trivial, k _ _ h1 trivial, k _ _ h2 trivial, TellsAt.keep k h3, TellsAt.keep k h4⟩
  | .whl _ _, _, ⟨p, pa, va, e, h, h1, h3⟩ => ⟨p, pa, va, e, k _ _ h trivial, k _ _ h1 trivial, TellsAt.keep k h3⟩
theorem TellsAt.keep {H H' : Hp} (k : Keep H H') : ∀ {ts : List Tr} {vs : List V}, TellsAt H ts vs → TellsAt H' ts vs
  | [], _, h => h
  | _ :: _, _, ⟨v, r, e, h1, h2⟩ => ⟨v, r, e, TellAt.keep k h1, TellsAt.keep k h2⟩
end
theorem TellsAt.len {H : Hp} : ∀ {ts : List Tr} {vs : List V}, TellsAt H ts vs → vs.length = ts.length
  | [], _, h => by
    subst h
    rfl
  | _ :: ts, _, ⟨v, r, e, _, h2⟩ => by
    subst e
    simp [TellsAt.len h2]
theorem TellsAt.get {H : Hp} : ∀ {ts : List Tr} {vs : List V} {i : Nat} {t : Tr}, TellsAt H ts vs → ts[i]? = some t → ∃ v, vs[i]? = some v ∧ TellAt H t v
  | _ :: ts, _, 0, t, ⟨v, r, e, h1, _⟩, h => by
    subst e
    simp at h
    subst h
    exact ⟨v, rfl, h1⟩
  | _ :: ts, _, i + 1, t, ⟨v, r, e, _, h2⟩, h => by
    subst e
    obtain ⟨w, q1, q2⟩ := TellsAt.get (i := i) h2 (by simpa using h)
    exact ⟨w, by simpa using q1, q2⟩
theorem TellsAt.snoc {H : Hp} {t : Tr} {v : V} (h : TellAt H t v) : ∀ {ts : List Tr} {vs : List V}, TellsAt H ts vs → TellsAt H (ts ++ [t]) (vs ++ [v])
  | [], _, e => by
    subst e
    exact ⟨v, [], rfl, h, rfl⟩
  | _ :: _, _, ⟨w, r, e, h1, h2⟩ => by
    subst e
    exact ⟨w, _, rfl, h1, TellsAt.snoc h h2⟩
theorem TellsAt.take {H : Hp} : ∀ {ts : List Tr} {vs : List V} (n : Nat), TellsAt H ts vs → TellsAt H (ts.take n) (vs.take n)
  | [], _, n, e => by
    subst e
    simp [TellsAt]
  | _ :: _, _, 0, ⟨w, r, e, h1, h2⟩ => by simp [TellsAt]
  | _ :: _, _, n + 1, ⟨w, r, e, h1, h2⟩ => by
    subst e
    exact ⟨w, _, rfl, h1, TellsAt.take n h2⟩
theorem vget {vs : List V} {ts : List Tr} {i : Nat} {v : V} (hl : vs.length = ts.length) (h : vs[i]? = some v) : ∃ t, ts[i]? = some t := by
  have := (List.getElem?_eq_some_iff.mp h).1
  exact ⟨_, List.getElem?_eq_getElem (by omega)⟩
section
variable {K : PySem.W.Frag} {mg : Str → Option Value} (T : Tx K mg)
def fsAtom (a : V) : List (Str × V) := putF "atom" a []
def fsIf (a r o : V) : List (Str × V) := putF "others" o (putF "rows" r (putF "atom" a []))
def fsWhile (a r : V) : List (Str × V) := putF "rows" r (putF "atom" a [])
mutual
/-- as objects -/
def ObjAt (H : Hp) : Tr → V → Prop
  | .tell n, v => ∃ p dx, v = .ref p ∧ H p = some (.ins T.a_TellRow dx (fsAtom (.int n)))
  | .back, v => ∃ p dx, v = .ref p ∧ H p = some (.ins T.a_BackRow dx (fsAtom (.int 1)))
  | .ife c a b, v => ∃ p dx pa pb va vb, v = .ref p ∧ H p = some (.ins T.a_IfRow dx (fsIf (.int c) (.ref pa) (.ref pb))) ∧ H pa = some (.tup va) ∧ H pb = some (.tup vb) ∧ ObjsAt H a va ∧ ObjsAt H b vb
  | .whl c a, v => ∃ p dx pa va, v = .ref p ∧ H p = some (.ins T.a_WhileRow dx (fsWhile (.int c) (.ref pa))) ∧ H pa = some (.tup va) ∧ ObjsAt H a va
def ObjsAt (H : Hp) : List Tr → List V → Prop
  | [], vs => vs = []
  | t :: ts, vs => ∃ v r, vs = v :: r ∧ ObjAt H t v ∧ ObjsAt H ts r
end
end
section
variable {K : PySem.W.Frag} {mg : Str → Option Value} {T : Tx K mg}
mutual
theorem ObjAt.keep {H H' : Hp} (k : Keep H H') : ∀ {t : Tr} {v : V}, ObjAt T H t v → ObjAt T H' t v
  | .tell _, _, ⟨p, dx, e, h⟩ => ⟨p, dx, e, k _ _ h trivial⟩
  | .back, _, ⟨p, dx, e, h⟩ => ⟨p, dx, e, k _ _ h trivial⟩
  | .ife _ _ _, _, ⟨p, dx, pa, pb, va, vb, e, h, h1, h2, h3, h4⟩ => ⟨p, dx, pa, pb, va, vb, e, k _ _ h trivial, k _ _ h1 trivial, k _ _ h2 trivial, ObjsAt.keep k h3, ObjsAt.keep k h4⟩
  | .whl _ _, _, ⟨p, dx, pa, va, e, h, h1, h3⟩ => ⟨p, dx, pa, va, e, k _ _ h trivial, k _ _ h1 trivial, ObjsAt.keep k h3⟩
theorem ObjsAt.keep {H H' : Hp} (k : Keep H H') : ∀ {ts : List Tr} {vs : List V}, ObjsAt T H ts vs → ObjsAt T H' ts vs
  | [], _, h => h
  | _ :: _, _, ⟨v, r, e, h1, h2⟩ => ⟨v, r, e, ObjAt.keep k h1, ObjsAt.keep k h2⟩
end
theorem ObjsAt.len {H : Hp} : ∀ {ts : List Tr} {vs : List V}, ObjsAt T H ts vs → vs.length = ts.length
  | [], _, h => by
    subst h
    rfl
  | _ :: ts, _, ⟨v, r, e, _, h2⟩ => by
    subst e
    simp [ObjsAt.len h2]
theorem ObjsAt.get {H : Hp} : ∀ {ts : List Tr} {vs : List V} {i : Nat} {t : Tr}, ObjsAt T H ts vs → ts[i]? = some t → ∃ v, vs[i]? = some v ∧ ObjAt T H t v
  | _ :: ts, _, 0, t, ⟨v, r, e, h1, _⟩, h => by
    subst e
    simp at h
    subst h
    exact ⟨v, rfl, h1⟩
  | _ :: ts, _, i + 1, t, ⟨v, r, e, _, h2⟩, h => by
    subst e
    obtain ⟨w, q1, q2⟩ := ObjsAt.get (i := i) h2 (by simpa using h)
    exact ⟨w, by simpa using q1, q2⟩
theorem ObjsAt.snoc {H : Hp} {t : Tr} {v : V} (h : ObjAt T H t v) : ∀ {ts : List Tr} {vs : List V}, ObjsAt T H ts vs → ObjsAt T H (ts ++ [t]) (vs ++ [v])
  | [], _, e => by
    subst e
    exact ⟨v, [], rfl, h, rfl⟩
  | _ :: _, _, ⟨w, r, e, h1, h2⟩ => by
    subst e
    exact ⟨w, _, rfl, h1, ObjsAt.snoc h h2⟩
/-- the parts of a row: tuples of rows -/
def PartsAt (T : Tx K mg) (H : Hp) : List (List Tr) → List V → Prop
  | [], ws => ws = []
  | ts :: ps, ws => ∃ p xs r, ws = .ref p :: r ∧ H p = some (.tup xs) ∧ ObjsAt T H ts xs ∧ PartsAt T H ps r
theorem PartsAt.keep {H H' : Hp} (k : Keep H H') : ∀ {ps : List (List Tr)} {ws : List V}, PartsAt T H ps ws → PartsAt T H' ps ws
  | [], _, h => h
  | _ :: _, _, ⟨p, xs, r, e, h1, h2, h3⟩ => ⟨p, xs, r, e, k _ _ h1 trivial, h2.keep k, PartsAt.keep k h3⟩
theorem PartsAt.len {H : Hp} : ∀ {ps : List (List Tr)} {ws : List V}, PartsAt T H ps ws → ws.length = ps.length
  | [], _, h => by
    subst h
    rfl
  | _ :: _, _, ⟨p, xs, r, e, _, _, h2⟩ => by
    subst e
    simp [PartsAt.len h2]
theorem PartsAt.get {H : Hp} : ∀ {ps : List (List Tr)} {ws : List V} {i : Nat} {v : V}, PartsAt T H ps ws → ws[i]? = some v → ∃ ts p xs, ps[i]? = some ts ∧ v = .ref p ∧ H p = some (.tup xs) ∧ ObjsAt T H ts xs
  | [], _, _, _, h, q => by
    subst h
    simp at q
  | ts :: _, _, 0, _, ⟨p, xs, r, e, h1, h2, _⟩, q => by
    subst e
    simp at q
    exact ⟨ts, p, xs, rfl, q.symm, h1, h2⟩
  | _ :: _, _, i + 1, _, ⟨p, xs, r, e, _, _, h3⟩, q => by
    subst e
    obtain ⟨ts, p', xs', q1, q2⟩ := PartsAt.get (i := i) h3 (by simpa using q)
    exact ⟨ts, p', xs', by simpa using q1, q2⟩
end
/-! ### lists of whole numbers in the heap -/
def vN (l : List Nat) : List V := l.map fun j : Nat => V.int (j : Int)
theorem vN_int (l : List Nat) : vN l = (l.map fun j : Nat => (j : Int)).map V.int := by
  unfold vN
  rw [List.map_map]
  rfl
theorem vN_len (l : List Nat) : (vN l).length = l.length := List.length_map _
theorem vN_get {l : List Nat} {i : Nat} {v : V} (h : (vN l)[i]? = some v) : ∃ k, l[i]? = some k ∧ v = .int (k : Int) := by
  unfold vN at h
  rw [List.getElem?_map] at h
  cases e : l[i]? with
  | none =>
    rw [e] at h
    cases h
  | some k =>
    rw [e] at h
    exact ⟨k, rfl, (Option.some.inj h).symm⟩
theorem vN_at {l : List Nat} {i k : Nat} (h : l[i]? = some k) : (vN l)[i]? = some (.int (k : Int)) := by
  unfold vN
  rw [List.getElem?_map, h]
  rfl
theorem inN (z : Nat) (l : List Nat) : inV (.int (z : Int)) (vN l) = l.contains z := by
  rw [vN_int, inInts, Bool.eq_iff_iff]
  simp only [decide_eq_true_eq, List.mem_map, List.contains_iff_mem]
  exact ⟨fun ⟨x, h, e⟩ => by
    have e' : x = z := by omega
    exact e' ▸ h, fun h => ⟨z, h, rfl⟩⟩
theorem flatN (l : List Nat) : (vN l).all flatV = true := by
  rw [vN_int]
  exact flatInts _
/-- followers in a dict: keys from n on, each a tuple -/
def FolAt (H : Hp) : Nat → List (List Nat) → List (Key × V) → Prop
  | _, [], kvs => kvs = []
  | n, f :: fs, kvs => ∃ p r, kvs = ((Sum.inl (n : Int) : Key), V.ref p) :: r ∧ H p = some (.tup (vN f)) ∧ FolAt H (n + 1) fs r
theorem FolAt.keep {H H' : Hp} (k : Keep H H') : ∀ {n : Nat} {fs : List (List Nat)} {kvs : List (Key × V)}, FolAt H n fs kvs → FolAt H' n fs kvs
  | _, [], _, h => h
  | _, _ :: _, _, ⟨p, r, e, h1, h2⟩ => ⟨p, r, e, k _ _ h1 trivial, FolAt.keep k h2⟩
theorem FolAt.len {H : Hp} : ∀ {n : Nat} {fs : List (List Nat)} {kvs : List (Key × V)}, FolAt H n fs kvs → kvs.length = fs.length
  | _, [], _, h => by
    subst h
    rfl
  | _, _ :: _, _, ⟨p, r, e, _, h2⟩ => by
    subst e
    simp [FolAt.len h2]
theorem FolAt.none {H : Hp} : ∀ {n m : Nat} {fs : List (List Nat)} {kvs : List (Key × V)}, FolAt H n fs kvs → n + fs.length ≤ m → valV kvs (Sum.inl (m : Int) : Key) = none
  | _, _, [], _, h, _ => by
    subst h
    rfl
  | n, m, _ :: fs, _, ⟨p, r, e, _, h2⟩, hm => by
    subst e
    simp only [List.length_cons] at hm
    rw [valV_neg (by
      intro e
      have := Sum.inl.inj e
      omega)]
    exact FolAt.none h2 (by omega)
theorem FolAt.get {H : Hp} : ∀ {n i : Nat} {fs : List (List Nat)} {kvs : List (Key × V)} {f : List Nat}, FolAt H n fs kvs → fs[i]? = some f → ∃ p, valV kvs (Sum.inl ((n + i : Nat) : Int) : Key) = some (.ref p) ∧ H p = some (.tup (vN f))
  | n, 0, _ :: _, _, f, ⟨p, r, e, h1, _⟩, h => by
    subst e
    simp at h
    subst h
    exact ⟨p, valV_pos rfl, h1⟩
  | n, i + 1, _ :: fs, _, f, ⟨p, r, e, _, h2⟩, h => by
    subst e
    obtain ⟨q, q1, q2⟩ := FolAt.get (n := n + 1) (i := i) h2 (by simpa using h)
    refine ⟨q, ?_, q2⟩
    rw [valV_neg (by
      intro e
      have := Sum.inl.inj e
      omega), show n + (i + 1) = n + 1 + i by omega]
    exact q1
theorem FolAt.snoc {H : Hp} {f : List Nat} {p : Addr} (hp : H p = some (.tup (vN f))) : ∀ {n m : Nat} {fs : List (List Nat)} {kvs : List (Key × V)}, FolAt H n fs kvs → m = n + fs.length → FolAt H n (fs ++ [f]) (kvs ++ [((Sum.inl (m : Int) : Key), V.ref p)])
  | n, m, [], _, h, e => by
    subst h
    simp at e
    subst e
    exact ⟨p, [], rfl, hp, rfl⟩
  | n, m, _ :: fs, _, ⟨q, r, e', h1, h2⟩, e => by
    subst e'
    simp only [List.length_cons] at e
    exact ⟨q, _, rfl, h1, FolAt.snoc hp h2 (by omega)⟩
/-- followers as a tuple of tuples -/
def TupsAt (H : Hp) : List (List Nat) → List V → Prop
  | [], vs => vs = []
  | f :: fs, vs => ∃ p r, vs = .ref p :: r ∧ H p = some (.tup (vN f)) ∧ TupsAt H fs r
theorem TupsAt.keep {H H' : Hp} (k : Keep H H') : ∀ {fs : List (List Nat)} {vs : List V}, TupsAt H fs vs → TupsAt H' fs vs
  | [], _, h => h
  | _ :: _, _, ⟨p, r, e, h1, h2⟩ => ⟨p, r, e, k _ _ h1 trivial, TupsAt.keep k h2⟩
theorem TupsAt.len {H : Hp} : ∀ {fs : List (List Nat)} {vs : List V}, TupsAt H fs vs → vs.length = fs.length
  | [], _, h => by
    subst h
    rfl
  | _ :: _, _, ⟨p, r, e, _, h2⟩ => by
    subst e
    simp [TupsAt.len h2]
theorem TupsAt.get {H : Hp} : ∀ {i : Nat} {fs : List (List Nat)} {vs : List V} {f : List Nat}, TupsAt H fs vs → fs[i]? = some f → ∃ p, vs[i]? = some (.ref p) ∧ H p = some (.tup (vN f))
  | 0, _ :: _, _, f, ⟨p, r, e, h1, _⟩, h => by
    subst e
    simp at h
    subst h
    exact ⟨p, rfl, h1⟩
  | i + 1, _ :: fs, _, f, ⟨p, r, e, _, h2⟩, h => by
    subst e
    obtain ⟨q, q1, q2⟩ := TupsAt.get (i := i) h2 (by simpa using h)
    exact ⟨q, by simpa using q1, q2⟩
theorem TupsAt.snoc {H : Hp} {f : List Nat} {p : Addr} (hp : H p = some (.tup (vN f))) : ∀ {fs : List (List Nat)} {vs : List V}, TupsAt H fs vs → TupsAt H (fs ++ [f]) (vs ++ [.ref p])
  | [], _, h => by
    subst h
    exact ⟨p, [], rfl, hp, rfl⟩
  | _ :: _, _, ⟨q, r, e', h1, h2⟩ => by
    subst e'
    exact ⟨q, _, rfl, h1, TupsAt.snoc hp h2⟩
section
variable {P : Program} {w : World} {K : PySem.W.Frag} {mg : Str → Option Value} {base : Heap}
def natsD (l : List Nat) : PyData := .tuple ((l.map fun j : Nat => (j : Int)).map PyData.int)
def tupsD (fs : List (List Nat)) : PyData := .tuple (fs.map natsD)
theorem natsD_dp {H : Hp} {p : Addr} {l : List Nat} (h : H p = some (.tup (vN l))) : Dp K H (.ref p) (natsD l) := .tup (SqT.of (by rw [← vN_int]; exact h)) (dpInts _)
theorem TupsAt.dp {H : Hp} : ∀ {fs : List (List Nat)} {vs : List V}, TupsAt H fs vs → DpAll K H vs (fs.map natsD)
  | [], _, h => by
    have h' : _ = [] := h
    subst h'
    exact .nil
  | _ :: _, _, ⟨p, r, e, h1, h2⟩ => e ▸ .cons (natsD_dp h1) (TupsAt.dp h2)
theorem natsD_lay (l : List Nat) : (natsD l).canLay0 = true := by
  unfold natsD
  simp only [PyData.canLay0]
  exact layInts _
theorem natsD_deep (l : List Nat) : (natsD l).depth ≤ 2 := by
  have := deepInts (l.map fun j : Nat => (j : Int))
  unfold natsD
  simp only [PyData.depth]
  omega
theorem tupsD_lay : ∀ fs : List (List Nat), PyData.canLayAll0 (fs.map natsD) = true
  | [] => by simp [PyData.canLayAll0]
  | f :: fs => by simp [PyData.canLayAll0, natsD_lay f, tupsD_lay fs]
theorem tupsD_deep : ∀ fs : List (List Nat), PyData.depthAll (fs.map natsD) ≤ 2
  | [] => by simp [PyData.depthAll]
  | f :: fs => by
    have h1 := natsD_deep f
    have h2 := tupsD_deep fs
    simp only [List.map_cons, PyData.depthAll]
    omega
theorem tupsD_shaped (fs : List (List Nat)) : SeqAt.shaped (tupsD fs) = true := shapedOf (by unfold tupsD; simp only [PyData.canLay0]; exact tupsD_lay fs) (by
  have := tupsD_deep fs
  unfold tupsD
  simp only [PyData.depth]
  omega)
theorem ne_nats (l : List Nat) : (!PyData.eqv (natsD l) (.tuple [])) = !l.isEmpty := by
  unfold natsD
  cases l <;> simp [PyData.eqv, PyData.eqvAll]
theorem natsD_shaped (l : List Nat) : SeqAt.shaped (natsD l) = true := shapedOf (natsD_lay l) (by
  have := natsD_deep l
  omega)
/-- t + u of two tuples -/
theorem catT {H : Hp} {Q : VK} {a b : Addr} {xs ys : List V} (ha : H a = some (.tup xs)) (hb : H b = some (.tup ys)) (hl : xs.length + ys.length ≤ sizeLine) (k : ∀ (H' : Hp) (r : Addr), Same H H' → H' r = some (.tup (xs ++ ys)) → Q (.ref r) H') : rCatA K (.ref a) (.ref b) H Q := by
  refine ⟨a, b, xs, ys, rfl, rfl, SqT.of ha, SqT.of hb, hl, fun e => k H b (Same.refl _) ?_, fun _ e => k H a (Same.refl _) ?_, fun _ _ p hp => k _ p (same_upd hp) upd_same⟩
  · subst e
    exact hb
  · subst e
    rw [List.append_nil]
    exact ha
end
/-! ### the cells -/
def cellF (ns : List Int) (k : Nat) : Int :=
  let c := ns.getD k 0
  let m := (c % 2147483629 + 7919 * ((k : Int) + 1)) * 48271 % 2147483647
  let m := m * m % 2147483629 * 69621 % 2147483647
  (c / 2147483629 * 2147483647 + m) * 2147483629 + m * m % 2147483629
def mixF (c : Int) (k : Nat) : Int :=
  let m := (c % 2147483629 + 104729 * ((k : Int) + 1)) * 16807 % 2147483647
  m * m % 2147483629 * 48271 % 2147483647
theorem mixF_nn (c : Int) (k : Nat) : 0 ≤ mixF c k := Int.emod_nonneg _ (by decide)
def spCell (K : PySem.W.Frag) : Sp := fun vs H Q _ => ∃ (a : Addr) (ns : List Int) (k : Nat), vs = [.ref a, .int (k : Int)] ∧ SqL K H a (ns.map V.int) ∧ Q (.int (cellF ns k)) H
def spMix : Sp := fun vs H Q _ => ∃ (c : Int) (k : Nat), vs = [.int c, .int (k : Int)] ∧ Q (.int (mixF c k)) H
section
variable {P : Program} {w : World} {K : PySem.W.Frag} {mg : Str → Option Value} {base : Heap}
theorem ok_l_mixed (T : Tx K mg) : FnOk P w K mg base CX0 1 T.f_l_mixed T.d_l_mixed ["_law_cell_here", "_law_k"] spMix := by
  refine T.F_l_mixed.ok sc_l_mixed (fun vs H Q E h => ?_) (fun cdv A outer s H vs Q E hr h => ?_)
  · obtain ⟨c, k, rfl, _⟩ := h
    rfl
  · obtain ⟨c, k, rfl, q⟩ := h
    refine ⟨_, (pss_cons (ps_set (i := 2) sc_l_mixed.nd rfl (Or.inl rfl) (pe_op op_mod (pe_op op_mul (pe_op op_add (pe_op op_mod (pv 0) pe_int) (pe_op op_mul pe_int (pe_op op_add (pv 1) pe_int))) pe_int) pe_int))
      (pss_one (ps_ret (pe_op op_mod (pe_op op_mul (pe_op op_mod (pe_op op_mul (pv 2) (pv 2)) pe_int) pe_int) pe_int)))), ?_⟩
    refine ⟨_, rfl, _, _, rfl, rfl, (by show (0 : Int) < 2147483629; decide), _, rfl, _, _, rfl, rfl, _, _, rfl, rfl, cmL (by decide) (by decide), _, _, rfl, rfl, _, _, rfl, rfl, cmR (by decide) (by decide), _, _, rfl, rfl, (by show (0 : Int) < 2147483647; decide), ?_⟩
    refine ⟨_, rfl, _, rfl, _, _, rfl, rfl, cmL (by omega) (by omega), _, _, rfl, rfl, (by show (0 : Int) < 2147483629; decide), _, _, rfl, rfl, cmR (by decide) (by decide), _, _, rfl, rfl, (by show (0 : Int) < 2147483647; decide), q⟩
theorem ok_l_cell (T : Tx K mg) : FnOk P w K mg base CX0 1 T.f_l_cell T.d_l_cell ["_law_script", "_law_k"] (spCell K) := by
  refine T.F_l_cell.ok sc_l_cell (fun vs H Q E h => ?_) (fun cdv A outer s H vs Q E hr h => ?_)
  · obtain ⟨a, ns, k, rfl, _⟩ := h
    rfl
  · obtain ⟨a, ns, k, rfl, hS, q⟩ := h
    refine ⟨_, (pss_cons (ps_set (i := 2) sc_l_cell.nd rfl (Or.inl rfl) (pe_ifExp (pt_cmpR op_lt (pv 1) (pe_callB (len_seqK (K := K) rfl) (by rfl) T.n_len PySem.boot_len (pa_cons (pv 0) pa_nil)) (nomark _)) (pe_ix (ix_listK (K := K) rfl) (pv 0) (pv 1) (fun _ _ => rfl)) pe_int))
      (pss_cons (ps_set (i := 3) sc_l_cell.nd rfl (Or.inl rfl) (pe_op op_mod (pe_op op_mul (pe_op op_add (pe_op op_mod (pv 2) pe_int) (pe_op op_mul pe_int (pe_op op_add (pv 1) pe_int))) pe_int) pe_int))
      (pss_cons (ps_set (i := 3) sc_l_cell.nd rfl (Or.inl rfl) (pe_op op_mod (pe_op op_mul (pe_op op_mod (pe_op op_mul (pv 3) (pv 3)) pe_int) pe_int) pe_int))
      (pss_one (ps_ret (pe_op op_add (pe_op op_mul (pe_op op_add (pe_op op_mul (pe_op op_fdivW (pv 2) pe_int) pe_int) (pv 3)) pe_int) (pe_op op_mod (pe_op op_mul (pv 3) (pv 3)) pe_int))))))), ?_⟩
    refine ⟨_, rfl, _, rfl, a, _, rfl, .inl hS, _, _, rfl, rfl, _, rfl, ?_⟩
    unfold cellF at q
    refine ite2 (fun hk => ?_) (fun hk => ?_)
    · have hk' := of_decide_eq_true hk
      rw [List.length_map] at hk'
      have hk2 : k < ns.length := by omega
      have hz : ns[k]? = some (ns.getD k 0) := by rw [List.getD_eq_getElem?_getD, List.getElem?_eq_getElem hk2]; rfl
      refine ⟨_, rfl, _, rfl, a, _, _, _, rfl, rfl, hS, ints_at hz, ?_⟩
      refine ⟨_, rfl, _, _, rfl, rfl, (by show (0 : Int) < 2147483629; decide), _, rfl, _, _, rfl, rfl, _, _, rfl, rfl, cmL (by decide) (by decide), _, _, rfl, rfl, _, _, rfl, rfl, cmR (by decide) (by decide), _, _, rfl, rfl, (by show (0 : Int) < 2147483647; decide), ?_⟩
      refine ⟨_, rfl, _, rfl, _, _, rfl, rfl, cmL (by omega) (by omega), _, _, rfl, rfl, (by show (0 : Int) < 2147483629; decide), _, _, rfl, rfl, cmR (by decide) (by decide), _, _, rfl, rfl, (by show (0 : Int) < 2147483647; decide), ?_⟩
      refine ⟨_, rfl, _, _, rfl, rfl, dvW (by decide) (by decide), _, _, rfl, rfl, cmR (by decide) (by decide), _, rfl, _, _, rfl, rfl, _, _, rfl, rfl, cmR (by decide) (by decide), _, rfl, _, rfl, _, _, rfl, rfl, cmL (by omega) (by omega), _, _, rfl, rfl, (by show (0 : Int) < 2147483629; decide), _, _, rfl, rfl, q⟩
    · have hk' : ¬ ((k : Int) < ((ns.map V.int).length : Int)) := fun z => hk (decide_eq_true z)
      rw [List.length_map] at hk'
      have hz : ns.getD k 0 = 0 := by rw [List.getD_eq_getElem?_getD, List.getElem?_eq_none (by omega)]; rfl
      rw [hz] at q
      refine ⟨_, rfl, _, _, rfl, rfl, (by show (0 : Int) < 2147483629; decide), _, rfl, _, _, rfl, rfl, _, _, rfl, rfl, cmL (by decide) (by decide), _, _, rfl, rfl, _, _, rfl, rfl, cmR (by decide) (by decide), _, _, rfl, rfl, (by show (0 : Int) < 2147483647; decide), ?_⟩
      refine ⟨_, rfl, _, rfl, _, _, rfl, rfl, cmL (by omega) (by omega), _, _, rfl, rfl, (by show (0 : Int) < 2147483629; decide), _, _, rfl, rfl, cmR (by decide) (by decide), _, _, rfl, rfl, (by show (0 : Int) < 2147483647; decide), ?_⟩
      refine ⟨_, rfl, _, _, rfl, rfl, dvW (by decide) (by decide), _, _, rfl, rfl, cmR (by decide) (by decide), _, rfl, _, _, rfl, rfl, _, _, rfl, rfl, cmR (by decide) (by decide), _, rfl, _, rfl, _, _, rfl, rfl, cmL (by omega) (by omega), _, _, rfl, rfl, (by show (0 : Int) < 2147483629; decide), _, _, rfl, rfl, q⟩
end
/-! ### the program: rows, their making and what they tell -/
section
variable {P : Program} {w : World} {K : PySem.W.Frag} {mg : Str → Option Value} {base : Heap}
theorem atom_atom (a : V) : (fsAtom a).lookup ("atom" : Str) = some a := by
  unfold fsAtom
  walk_at "flook"
theorem atom_no {m : Str} (a : V) (h : ¬ m = "atom") : (fsAtom a).lookup m = none := by
  unfold fsAtom
  rw [lookup_putF, if_neg h]
  rfl
theorem if_atom (a r o : V) : (fsIf a r o).lookup ("atom" : Str) = some a := by
  unfold fsIf
  walk_at "flook"
theorem if_rows (a r o : V) : (fsIf a r o).lookup ("rows" : Str) = some r := by
  unfold fsIf
  walk_at "flook"
theorem if_others (a r o : V) : (fsIf a r o).lookup ("others" : Str) = some o := by
  unfold fsIf
  walk_at "flook"
theorem if_no {m : Str} (a r o : V) (h : ¬ m = "atom") (h1 : ¬ m = "rows") (h2 : ¬ m = "others") : (fsIf a r o).lookup m = none := by
  unfold fsIf
  rw [lookup_putF, if_neg h2, lookup_putF, if_neg h1, lookup_putF, if_neg h]
  rfl
theorem while_atom (a r : V) : (fsWhile a r).lookup ("atom" : Str) = some a := by
  unfold fsWhile
  walk_at "flook"
theorem while_rows (a r : V) : (fsWhile a r).lookup ("rows" : Str) = some r := by
  unfold fsWhile
  walk_at "flook"
theorem while_no {m : Str} (a r : V) (h : ¬ m = "atom") (h1 : ¬ m = "rows") : (fsWhile a r).lookup m = none := by
  unfold fsWhile
  rw [lookup_putF, if_neg h1, lookup_putF, if_neg h]
  rfl
def spInit1 (C : Addr) : Sp := fun vs H Q _ => ∃ (x dx : Addr) (a : V), vs = [.ref x, a] ∧ H x = some (.ins C dx []) ∧ Q .non (upd H x (.ins C dx (fsAtom a)))
theorem ok_TellRow_init (T : Tx K mg) : FnOk P w K mg base CX0 1 T.f_TellRow_init T.d_TellRow_init ["self", "atom"] (spInit1 T.a_TellRow) := by
  refine T.F_TellRow_init.ok sc_TellRow_init (fun vs H Q E h => ?_) (fun cdv A outer s H vs Q E hr h => ?_)
  · obtain ⟨x, dx, a, rfl, _⟩ := h
    rfl
  · obtain ⟨x, dx, a, rfl, hx, q⟩ := h
    exact ⟨_, (pss_one (ps_fld (pv 0) (pv 1) rfl)), _, rfl, _, rfl, x, _, dx, [], rfl, hx, T.cl_TellRow, T.na_TellRow_atom, (by show 0 < 1000; decide), q⟩
theorem ok_BackRow_init (T : Tx K mg) : FnOk P w K mg base CX0 1 T.f_BackRow_init T.d_BackRow_init ["self", "atom"] (spInit1 T.a_BackRow) := by
  refine T.F_BackRow_init.ok sc_BackRow_init (fun vs H Q E h => ?_) (fun cdv A outer s H vs Q E hr h => ?_)
  · obtain ⟨x, dx, a, rfl, _⟩ := h
    rfl
  · obtain ⟨x, dx, a, rfl, hx, q⟩ := h
    exact ⟨_, (pss_one (ps_fld (pv 0) (pv 1) rfl)), _, rfl, _, rfl, x, _, dx, [], rfl, hx, T.cl_BackRow, T.na_BackRow_atom, (by show 0 < 1000; decide), q⟩
def spInitIf (C : Addr) : Sp := fun vs H Q _ => ∃ (x dx pa pb : Addr) (a : V) (va vb : List V), vs = [.ref x, a, .ref pa, .ref pb] ∧ H x = some (.ins C dx []) ∧ H pa = some (.tup va) ∧ H pb = some (.tup vb) ∧ Q .non (upd H x (.ins C dx (fsIf a (.ref pa) (.ref pb))))
theorem ok_IfRow_init (T : Tx K mg) : FnOk P w K mg base CX0 1 T.f_IfRow_init T.d_IfRow_init ["self", "atom", "rows", "others"] (spInitIf T.a_IfRow) := by
  refine T.F_IfRow_init.ok sc_IfRow_init (fun vs H Q E h => ?_) (fun cdv A outer s H vs Q E hr h => ?_)
  · obtain ⟨x, dx, pa, pb, a, va, vb, rfl, _⟩ := h
    rfl
  · obtain ⟨x, dx, pa, pb, a, va, vb, rfl, hx, ha, hb, q⟩ := h
    have n1 : pa ≠ x := ne_of ha hx (by intro z; cases z)
    have n2 : pb ≠ x := ne_of hb hx (by intro z; cases z)
    refine ⟨_, (pss_cons (ps_fld (pv 0) (pv 1) rfl)
      (pss_cons (ps_fld (pv 0) (pe_callTy (tuple_ofK (K := K) rfl) (by rfl) T.n_tuple PyProof.Rows.boot_tuple (pa_cons (pv 2) pa_nil)) rfl)
      (pss_one (ps_fld (pv 0) (pe_callTy (tuple_ofK (K := K) rfl) (by rfl) T.n_tuple PyProof.Rows.boot_tuple (pa_cons (pv 3) pa_nil)) rfl)))), ?_⟩
    refine ⟨_, rfl, _, rfl, x, _, dx, [], rfl, hx, T.cl_IfRow, T.na_IfRow_atom, (by show 0 < 1000; decide), ?_⟩
    refine ⟨_, rfl, pa, va, rfl, .inr ⟨SqT.of (by rw [upd_ne n1]; exact ha), ?_⟩⟩
    refine ⟨_, rfl, x, _, dx, _, rfl, upd_same, T.cl_IfRow, T.na_IfRow_rows, (by have := putF_len (f := "atom") (v := a) []; simp only [List.length_nil] at this; omega), ?_⟩
    rw [upd_upd]
    refine ⟨_, rfl, pb, vb, rfl, .inr ⟨SqT.of (by rw [upd_ne n2]; exact hb), ?_⟩⟩
    refine ⟨_, rfl, x, _, dx, _, rfl, upd_same, T.cl_IfRow, T.na_IfRow_others, (by have := putF_len (f := "atom") (v := a) []; have := putF_len (f := "rows") (v := .ref pa) (putF "atom" a []); simp only [List.length_nil] at *; omega), ?_⟩
    rw [upd_upd]
    exact q
def spInitWhile (C : Addr) : Sp := fun vs H Q _ => ∃ (x dx pa : Addr) (a : V) (va : List V), vs = [.ref x, a, .ref pa] ∧ H x = some (.ins C dx []) ∧ H pa = some (.tup va) ∧ Q .non (upd H x (.ins C dx (fsWhile a (.ref pa))))
theorem ok_WhileRow_init (T : Tx K mg) : FnOk P w K mg base CX0 1 T.f_WhileRow_init T.d_WhileRow_init ["self", "atom", "rows"] (spInitWhile T.a_WhileRow) := by
  refine T.F_WhileRow_init.ok sc_WhileRow_init (fun vs H Q E h => ?_) (fun cdv A outer s H vs Q E hr h => ?_)
  · obtain ⟨x, dx, pa, a, va, rfl, _⟩ := h
    rfl
  · obtain ⟨x, dx, pa, a, va, rfl, hx, ha, q⟩ := h
    have n1 : pa ≠ x := ne_of ha hx (by intro z; cases z)
    refine ⟨_, (pss_cons (ps_fld (pv 0) (pv 1) rfl)
      (pss_one (ps_fld (pv 0) (pe_callTy (tuple_ofK (K := K) rfl) (by rfl) T.n_tuple PyProof.Rows.boot_tuple (pa_cons (pv 2) pa_nil)) rfl))), ?_⟩
    refine ⟨_, rfl, _, rfl, x, _, dx, [], rfl, hx, T.cl_WhileRow, T.na_WhileRow_atom, (by show 0 < 1000; decide), ?_⟩
    refine ⟨_, rfl, pa, va, rfl, .inr ⟨SqT.of (by rw [upd_ne n1]; exact ha), ?_⟩⟩
    refine ⟨_, rfl, x, _, dx, _, rfl, upd_same, T.cl_WhileRow, T.na_WhileRow_rows, (by have := putF_len (f := "atom") (v := a) []; simp only [List.length_nil] at this; omega), ?_⟩
    rw [upd_upd]
    exact q
/-! inner -/
def spLeaf : Sp := fun vs H Q _ => ∃ v : V, vs = [v] ∧ ∀ q, H q = none → Q (.ref q) (upd H q (.tup []))
theorem ok_Row_inner (T : Tx K mg) : FnOk P w K mg base CX0 1 T.f_Row_inner T.d_Row_inner ["self"] spLeaf := by
  refine T.F_Row_inner.ok sc_Row_inner (fun vs H Q E h => ?_) (fun cdv A outer s H vs Q E hr h => ?_)
  · obtain ⟨v, rfl, _⟩ := h
    rfl
  · obtain ⟨v, rfl, q⟩ := h
    exact ⟨_, (pss_one (ps_ret (pe_tup pa_nil))), Nat.zero_le _, q⟩
def spParts (T : Tx K mg) (t : Tr → Prop) : Sp := fun vs H Q _ => ∃ (v : V) (r : Tr), vs = [v] ∧ t r ∧ ObjAt T H r v ∧ ∀ (H' : Hp) (q : Addr) (ws : List V), Same H H' → H q = none → H' q = some (.tup ws) → PartsAt T H' (parts r) ws → Q (.ref q) H'
def isIf : Tr → Prop
  | .ife _ _ _ => True
  | _ => False
def isWhile : Tr → Prop
  | .whl _ _ => True
  | _ => False
theorem ok_IfRow_inner (T : Tx K mg) : FnOk P w K mg base CX0 1 T.f_IfRow_inner T.d_IfRow_inner ["self"] (spParts T isIf) := by
  refine T.F_IfRow_inner.ok sc_IfRow_inner (fun vs H Q E h => ?_) (fun cdv A outer s H vs Q E hr h => ?_)
  · obtain ⟨v, r, rfl, _⟩ := h
    rfl
  · obtain ⟨v, r, rfl, hi, o, q⟩ := h
    cases r with
    | ife c a b =>
      obtain ⟨p, dx, pa, pb, va, vb, rfl, hp, ha, hb, oa, ob⟩ := id o
      refine ⟨_, (pss_one (ps_ret (pe_tup (pa_cons (fldK (K := K) rfl (pv 0) rfl) (pa_cons (fldK (K := K) rfl (pv 0) rfl) pa_nil))))), ?_⟩
      refine ⟨_, rfl, p, _, dx, _, _, rfl, hp, T.cl_IfRow, T.na_IfRow_rows, if_rows _ _ _, _, rfl, p, _, dx, _, _, rfl, hp, T.cl_IfRow, T.na_IfRow_others, if_others _ _ _, (by show 2 ≤ sizeLine; decide), fun g hg => ?_⟩
      generalize hX : upd _ g _ = H1
      obtain ⟨s1, a1⟩ := fresh hg hX
      have k := Keep.of s1
      exact q _ _ _ s1 hg a1 ⟨pa, va, _, rfl, s1 _ _ ha, oa.keep k, pb, vb, _, rfl, s1 _ _ hb, ob.keep k, rfl⟩
    | tell n => exact hi.elim
    | back => exact hi.elim
    | whl c a => exact hi.elim
theorem ok_WhileRow_inner (T : Tx K mg) : FnOk P w K mg base CX0 1 T.f_WhileRow_inner T.d_WhileRow_inner ["self"] (spParts T isWhile) := by
  refine T.F_WhileRow_inner.ok sc_WhileRow_inner (fun vs H Q E h => ?_) (fun cdv A outer s H vs Q E hr h => ?_)
  · obtain ⟨v, r, rfl, _⟩ := h
    rfl
  · obtain ⟨v, r, rfl, hi, o, q⟩ := h
    cases r with
    | whl c a =>
      obtain ⟨p, dx, pa, va, rfl, hp, ha, oa⟩ := id o
      refine ⟨_, (pss_one (ps_ret (pe_tup (pa_cons (fldK (K := K) rfl (pv 0) rfl) pa_nil)))), ?_⟩
      refine ⟨_, rfl, p, _, dx, _, _, rfl, hp, T.cl_WhileRow, T.na_WhileRow_rows, while_rows _ _, (by show 1 ≤ sizeLine; decide), fun g hg => ?_⟩
      generalize hX : upd _ g _ = H1
      obtain ⟨s1, a1⟩ := fresh hg hX
      exact q _ _ _ s1 hg a1 ⟨pa, va, _, rfl, s1 _ _ ha, oa.keep (Keep.of s1), rfl⟩
    | tell n => exact hi.elim
    | back => exact hi.elim
    | ife c a b => exact hi.elim
/-- row.inner(), of a row of any sort -/
theorem inner_alt {T : Tx K mg} {ta : TE} {σ : St} {H : Hp} {Q : VK} {v : V} {t : Tr} (hta : ∀ R : VK, R v H → ta σ H R) (o : ObjAt T H t v)
    (k : ∀ (H' : Hp) (q : Addr) (ws : List V), Same H H' → H q = none → H' q = some (.tup ws) → PartsAt T H' (parts t) ws → Q (.ref q) H') :
    tAlt (tMeth T.a_TellRow "inner" spLeaf [] E0 ta tNil) (tAlt (tMeth T.a_BackRow "inner" spLeaf [] E0 ta tNil) (tAlt (tMeth T.a_IfRow "inner" (spParts T isIf) [] E0 ta tNil) (tMeth T.a_WhileRow "inner" (spParts T isWhile) [] E0 ta tNil))) σ H Q := by
  cases t with
  | tell n =>
    obtain ⟨p, dx, rfl, hp⟩ := o
    exact .inl (hta _ ⟨p, dx, _, rfl, hp, atom_no _ (by decide +kernel), _, rfl, fun q hq => k _ q _ (same_upd hq) hq upd_same rfl⟩)
  | back =>
    obtain ⟨p, dx, rfl, hp⟩ := o
    exact .inr (.inl (hta _ ⟨p, dx, _, rfl, hp, atom_no _ (by decide +kernel), _, rfl, fun q hq => k _ q _ (same_upd hq) hq upd_same rfl⟩))
  | ife c a b =>
    obtain ⟨p, dx, pa, pb, va, vb, rfl, hp, _⟩ := id o
    exact .inr (.inr (.inl (hta _ ⟨p, dx, _, rfl, hp, if_no _ _ _ (by decide +kernel) (by decide +kernel) (by decide +kernel), _, .ife c a b, rfl, trivial, o, k⟩)))
  | whl c a =>
    obtain ⟨p, dx, pa, va, rfl, hp, _⟩ := id o
    exact .inr (.inr (.inr (hta _ ⟨p, dx, _, rfl, hp, while_no _ _ (by decide +kernel) (by decide +kernel), _, .whl c a, rfl, trivial, o, k⟩)))
/-! count_of -/
def spCount (T : Tx K mg) (d : Nat) : Sp := fun vs H Q _ => ∃ (a : Addr) (xs : List V) (ts : List Tr), vs = [.ref a] ∧ H a = some (.tup xs) ∧ ObjsAt T H ts xs ∧ deps ts < d ∧ ∀ H' : Hp, Same H H' → Q (.int (cnts ts : Int)) H'
theorem ok_count_of (T : Tx K mg) : ∀ d : Nat, FnOk P w K mg base CX0 (d + 1) T.f_count_of T.d_count_of ["rows"] (spCount T d)
  | 0 => T.F_count_of.ok sc_count_of (fun vs H Q E ⟨a, xs, ts, _, _, _, h, _⟩ => absurd h (Nat.not_lt_zero _)) (fun cdv A outer s H vs Q E hr ⟨a, xs, ts, _, _, _, h, _⟩ => absurd h (Nat.not_lt_zero _))
  | d + 1 => by
    have ih := ok_count_of T d
    refine T.F_count_of.ok sc_count_of (fun vs H Q E h => ?_) (fun cdv A outer s H vs Q E hr h => ?_)
    · obtain ⟨a, xs, ts, rfl, _⟩ := h
      rfl
    · obtain ⟨a, xs, ts, rfl, ha, os, hd, q⟩ := h
      refine ⟨_, (pss_cons (ps_set (i := 1) sc_count_of.nd rfl (Or.inl rfl) pe_int)
      (pss_cons (ps_for PassesOwn.never rfl (pi_tupK (K := K) rfl (pv 0)) (pg_name (i := 2) sc_count_of.nd rfl (Or.inl rfl))
        (pss_cons (ps_aug (i := 1) sc_count_of.nd rfl (Or.inl rfl) pe_int ip_add)
        (pss_one (ps_for PassesOwn.never rfl (pi_tupK (K := K) rfl (peAlt (pe_meth0 (pv 2) T.cl_TellRow T.M_TellRow_inner (ok_Row_inner T) (hr.mono (by omega)) T.B_Row_inner .nil pass0) (peAlt (pe_meth0 (pv 2) T.cl_BackRow T.M_BackRow_inner (ok_Row_inner T) (hr.mono (by omega)) T.B_Row_inner .nil pass0) (peAlt (pe_meth0 (pv 2) T.cl_IfRow T.M_IfRow_inner (ok_IfRow_inner T) (hr.mono (by omega)) T.B_IfRow_inner .nil pass0) (pe_meth0 (pv 2) T.cl_WhileRow T.M_WhileRow_inner (ok_WhileRow_inner T) (hr.mono (by omega)) T.B_WhileRow_inner .nil pass0))))) (pg_name (i := 3) sc_count_of.nd rfl (Or.inl rfl))
          (pss_one (ps_aug (i := 1) sc_count_of.nd rfl (Or.inl rfl) (pe_call ih (hr.mono (by omega)) rfl T.m_count_of T.F_count_of.kp T.B_count_of .nil pass0 (pa_cons (pv 3) pa_nil)) ip_add))))))
      (pss_one (ps_ret (pv 1))))), ?_⟩
      refine ⟨_, rfl, a, rfl, ⟨_, SqT.of ha⟩, for_tup (K := K) (a := a) (xs := xs) (fun i σ H2 => ∃ v2 v3 : Option V, σ = [some (.ref a), some (.int (cnts (ts.take i) : Int)), v2, v3] ∧ Same H H2)
        ⟨none, none, rfl, Same.refl _⟩ (fun i σ H2 _ ⟨_, _, _, s⟩ => SqT.of (s _ _ ha)) ?_ ?_⟩
      · rintro i x σ H2 hx ⟨v2, v3, rfl, sm⟩
        obtain ⟨t, ht⟩ := vget os.len hx
        obtain ⟨x', hx', o⟩ := os.get ht
        have e : x' = x := by
          rw [hx] at hx'
          exact (Option.some.inj hx').symm
        subst e
        have hdt : dep t < d + 1 := Nat.lt_of_le_of_lt (deps_mem (List.mem_of_getElem? ht)) hd
        refine ⟨_, rfl, _, _, rfl, rfl, ?_⟩
        refine inner_alt (v := x') (fun R h => ⟨_, rfl, h⟩) (o.keep (Keep.of sm)) fun H3 g ws s3 _ hg pw => ?_
        have hct := cnt_parts t
        refine ⟨g, rfl, ⟨_, SqT.of hg⟩, for_tup (K := K) (a := g) (xs := ws) (fun j σ H4 => ∃ v3 : Option V, σ = [some (.ref a), some (.int ((cnts (ts.take i) : Int) + 1 + (sumc ((parts t).take j) : Int))), some x', v3] ∧ Same H3 H4)
          ⟨v3, by simp [sumc], Same.refl _⟩ (fun j σ H4 _ ⟨_, _, s⟩ => SqT.of (s _ _ hg)) ?_ ?_⟩
        · rintro j y σ H4 hy ⟨v3, rfl, s4⟩
          obtain ⟨pt, pp, px, hp1, rfl, hp2, po⟩ := pw.get hy
          have hdp := dep_parts (List.mem_of_getElem? hp1)
          refine ⟨_, rfl, _, rfl, pp, px, pt, rfl, s4 _ _ hp2, po.keep (Keep.of s4), by omega, fun H5 s5 => ?_⟩
          refine ⟨_, _, rfl, rfl, some (.ref pp), ?_, s4.trans s5⟩
          have e : sumc ((parts t).take (j + 1)) = sumc ((parts t).take j) + cnts pt := by
            rw [List.take_add_one, hp1]
            generalize (parts t).take j = l
            induction l with
            | nil => simp [sumc]
            | cons a l ih =>
              simp only [List.cons_append, sumc, ih]
              omega
          rw [e]
          have e2 : (cnts (ts.take i) : Int) + 1 + ((sumc ((parts t).take j) + cnts pt : Nat) : Int) = (cnts (ts.take i) : Int) + 1 + (sumc ((parts t).take j) : Int) + (cnts pt : Int) := by omega
          rw [e2]
          rfl
        · rintro σ H4 ⟨v3, rfl, s4⟩
          rw [pw.len, List.take_length]
          refine ⟨some x', v3, ?_, sm.trans (s3.trans s4)⟩
          rw [cnts_take ht, hct]
          have e2 : (cnts (ts.take i) : Int) + 1 + (sumc (parts t) : Int) = ((cnts (ts.take i) + (1 + sumc (parts t)) : Nat) : Int) := by omega
          rw [e2]
      · rintro σ H2 ⟨v2, v3, rfl, sm⟩
        rw [os.len, List.take_length]
        exact ⟨_, rfl, q _ sm⟩
end
/-! ### told -/
section
variable {P : Program} {w : World} {K : PySem.W.Frag} {mg : Str → Option Value} {base : Heap}
def kindOf : Tr → Str
  | .tell _ => "tell"
  | .back => "back"
  | .ife _ _ _ => "if"
  | .whl _ _ => "while"
/-- what it tells begins with its word -/
def spTold (T : Tx K mg) (t : Tr → Prop) (d : Nat) : Sp := fun vs H Q _ => ∃ (v : V) (r : Tr), vs = [v] ∧ t r ∧ dep r ≤ d ∧ cnt r ≤ 1000 ∧ ObjAt T H r v ∧ ∀ (H' : Hp) (q : Addr) (ws : List V), Same H H' → H q = none → H' q = some (.tup (.str (kindOf r) :: ws)) → Q (.ref q) H'
def isTell : Tr → Prop
  | .tell _ => True
  | _ => False
def isBack : Tr → Prop
  | .back => True
  | _ => False
theorem ok_TellRow_told (T : Tx K mg) (d : Nat) : FnOk P w K mg base CX0 1 T.f_TellRow_told T.d_TellRow_told ["self"] (spTold T isTell d) := by
  refine T.F_TellRow_told.ok sc_TellRow_told (fun vs H Q E h => ?_) (fun cdv A outer s H vs Q E hr h => ?_)
  · obtain ⟨v, r, rfl, _⟩ := h
    rfl
  · obtain ⟨v, r, rfl, hi, _, _, o, q⟩ := h
    cases r with
    | tell n =>
      obtain ⟨p, dx, rfl, hp⟩ := o
      refine ⟨_, (pss_one (ps_ret (pe_tup (pa_cons pe_str (pa_cons (fldK (K := K) rfl (pv 0) rfl) pa_nil))))), _, rfl, p, _, dx, _, _, rfl, hp, T.cl_TellRow, T.na_TellRow_atom, atom_atom _, (by show 2 ≤ sizeLine; decide), fun g hg => ?_⟩
      exact q _ _ _ (same_upd hg) hg upd_same
    | ife c a b => exact hi.elim
    | back => exact hi.elim
    | whl c a => exact hi.elim
theorem ok_BackRow_told (T : Tx K mg) (d : Nat) : FnOk P w K mg base CX0 1 T.f_BackRow_told T.d_BackRow_told ["self"] (spTold T isBack d) := by
  refine T.F_BackRow_told.ok sc_BackRow_told (fun vs H Q E h => ?_) (fun cdv A outer s H vs Q E hr h => ?_)
  · obtain ⟨v, r, rfl, _⟩ := h
    rfl
  · obtain ⟨v, r, rfl, hi, _, _, o, q⟩ := h
    cases r with
    | back =>
      obtain ⟨p, dx, rfl, hp⟩ := o
      refine ⟨_, (pss_one (ps_ret (pe_tup (pa_cons pe_str (pa_cons (fldK (K := K) rfl (pv 0) rfl) pa_nil))))), _, rfl, p, _, dx, _, _, rfl, hp, T.cl_BackRow, T.na_BackRow_atom, atom_atom _, (by show 2 ≤ sizeLine; decide), fun g hg => ?_⟩
      exact q _ _ _ (same_upd hg) hg upd_same
    | ife c a b => exact hi.elim
    | tell n => exact hi.elim
    | whl c a => exact hi.elim
/-- row.told(), of a row of any sort -/
theorem told_alt {T : Tx K mg} {d : Nat} {ta : TE} {σ : St} {H : Hp} {Q : VK} {v : V} {t : Tr} (hta : ∀ R : VK, R v H → ta σ H R) (o : ObjAt T H t v) (hd : dep t ≤ d) (hc : cnt t ≤ 1000)
    (k : ∀ (H' : Hp) (q : Addr) (ws : List V), Same H H' → H q = none → H' q = some (.tup (.str (kindOf t) :: ws)) → Q (.ref q) H') :
    tAlt (tMeth T.a_TellRow "told" (spTold T isTell d) [] E0 ta tNil) (tAlt (tMeth T.a_BackRow "told" (spTold T isBack d) [] E0 ta tNil) (tAlt (tMeth T.a_IfRow "told" (spTold T isIf d) [] E0 ta tNil) (tMeth T.a_WhileRow "told" (spTold T isWhile d) [] E0 ta tNil))) σ H Q := by
  cases t with
  | tell n =>
    obtain ⟨p, dx, rfl, hp⟩ := id o
    exact .inl (hta _ ⟨p, dx, _, rfl, hp, atom_no _ (by decide +kernel), _, .tell n, rfl, trivial, hd, hc, o, k⟩)
  | back =>
    obtain ⟨p, dx, rfl, hp⟩ := id o
    exact .inr (.inl (hta _ ⟨p, dx, _, rfl, hp, atom_no _ (by decide +kernel), _, .back, rfl, trivial, hd, hc, o, k⟩))
  | ife c a b =>
    obtain ⟨p, dx, pa, pb, va, vb, rfl, hp, _⟩ := id o
    exact .inr (.inr (.inl (hta _ ⟨p, dx, _, rfl, hp, if_no _ _ _ (by decide +kernel) (by decide +kernel) (by decide +kernel), _, .ife c a b, rfl, trivial, hd, hc, o, k⟩)))
  | whl c a =>
    obtain ⟨p, dx, pa, va, rfl, hp, _⟩ := id o
    exact .inr (.inr (.inr (hta _ ⟨p, dx, _, rfl, hp, while_no _ _ (by decide +kernel) (by decide +kernel), _, .whl c a, rfl, trivial, hd, hc, o, k⟩)))
def spAll (T : Tx K mg) (d : Nat) : Sp := fun vs H Q _ => ∃ (a : Addr) (xs : List V) (ts : List Tr), vs = [.ref a] ∧ H a = some (.tup xs) ∧ ObjsAt T H ts xs ∧ deps ts < d ∧ cnts ts ≤ 1000 ∧ ∀ (H' : Hp) (q : Addr) (ws : List V), Same H H' → H q = none → H' q = some (.tup ws) → Q (.ref q) H'
theorem ok_If_of {T : Tx K mg} {d : Nat} (ih : FnOk P w K mg base CX0 (2 * d + 1) T.f_all_told T.d_all_told ["rows"] (spAll T d)) : FnOk P w K mg base CX0 (2 * d + 2) T.f_IfRow_told T.d_IfRow_told ["self"] (spTold T isIf d) := by
  refine T.F_IfRow_told.ok sc_IfRow_told (fun vs H Q E h => ?_) (fun cdv A outer s H vs Q E hr h => ?_)
  · obtain ⟨v, r, rfl, _⟩ := h
    rfl
  · obtain ⟨v, r, rfl, hi, hd, hc, o, q⟩ := h
    cases r with
    | ife c a b =>
      obtain ⟨p, dx, pa, pb, va, vb, rfl, hp, ha, hb, oa, ob⟩ := id o
      simp only [dep] at hd
      simp only [cnt] at hc
      have la := len_cnts a
      have lb := len_cnts b
      refine ⟨_, (pss_one (ps_ret (pe_tup (pa_cons pe_str (pa_cons (fldK (K := K) rfl (pv 0) rfl) (pa_cons (pe_call ih (hr.mono (by omega)) rfl T.m_all_told T.F_all_told.kp T.B_all_told .nil pass0 (pa_cons (fldK (K := K) rfl (pv 0) rfl) pa_nil)) (pa_cons (pe_call ih (hr.mono (by omega)) rfl T.m_all_told T.F_all_told.kp T.B_all_told .nil pass0 (pa_cons (fldK (K := K) rfl (pv 0) rfl) pa_nil)) pa_nil))))))), ?_⟩
      refine ⟨_, rfl, p, _, dx, _, _, rfl, hp, T.cl_IfRow, T.na_IfRow_atom, if_atom _ _ _, _, rfl, p, _, dx, _, _, rfl, hp, T.cl_IfRow, T.na_IfRow_rows, if_rows _ _ _, pa, va, a, rfl, ha, oa, by omega, by omega, fun H1 q1 w1 s1 n1 h1 => ?_⟩
      refine ⟨_, rfl, p, _, dx, _, _, rfl, s1 _ _ hp, T.cl_IfRow, T.na_IfRow_others, if_others _ _ _, pb, vb, b, rfl, s1 _ _ hb, ob.keep (Keep.of s1), by omega, by omega, fun H2 q2 w2 s2 n2 h2 => ?_⟩
      refine ⟨(by show 4 ≤ sizeLine; decide), fun g hg => ?_⟩
      exact q _ _ _ ((s1.trans s2).trans (same_upd hg)) ((s1.trans s2).free hg) upd_same
    | back => exact hi.elim
    | tell n => exact hi.elim
    | whl c a => exact hi.elim
theorem ok_While_of {T : Tx K mg} {d : Nat} (ih : FnOk P w K mg base CX0 (2 * d + 1) T.f_all_told T.d_all_told ["rows"] (spAll T d)) : FnOk P w K mg base CX0 (2 * d + 2) T.f_WhileRow_told T.d_WhileRow_told ["self"] (spTold T isWhile d) := by
  refine T.F_WhileRow_told.ok sc_WhileRow_told (fun vs H Q E h => ?_) (fun cdv A outer s H vs Q E hr h => ?_)
  · obtain ⟨v, r, rfl, _⟩ := h
    rfl
  · obtain ⟨v, r, rfl, hi, hd, hc, o, q⟩ := h
    cases r with
    | whl c a =>
      obtain ⟨p, dx, pa, va, rfl, hp, ha, oa⟩ := id o
      simp only [dep] at hd
      simp only [cnt] at hc
      have la := len_cnts a
      refine ⟨_, (pss_one (ps_ret (pe_tup (pa_cons pe_str (pa_cons (fldK (K := K) rfl (pv 0) rfl) (pa_cons (pe_call ih (hr.mono (by omega)) rfl T.m_all_told T.F_all_told.kp T.B_all_told .nil pass0 (pa_cons (fldK (K := K) rfl (pv 0) rfl) pa_nil)) pa_nil)))))), ?_⟩
      refine ⟨_, rfl, p, _, dx, _, _, rfl, hp, T.cl_WhileRow, T.na_WhileRow_atom, while_atom _ _, _, rfl, p, _, dx, _, _, rfl, hp, T.cl_WhileRow, T.na_WhileRow_rows, while_rows _ _, pa, va, a, rfl, ha, oa, by omega, by omega, fun H1 q1 w1 s1 n1 h1 => ?_⟩
      refine ⟨(by show 3 ≤ sizeLine; decide), fun g hg => ?_⟩
      exact q _ _ _ (s1.trans (same_upd hg)) (s1.free hg) upd_same
    | back => exact hi.elim
    | tell n => exact hi.elim
    | ife c a b => exact hi.elim
theorem ok_all_told (T : Tx K mg) : ∀ d : Nat, FnOk P w K mg base CX0 (2 * d + 1) T.f_all_told T.d_all_told ["rows"] (spAll T d)
  | 0 => T.F_all_told.ok sc_all_told (fun vs H Q E ⟨a, xs, ts, _, _, _, h, _⟩ => absurd h (Nat.not_lt_zero _)) (fun cdv A outer s H vs Q E hr ⟨a, xs, ts, _, _, _, h, _⟩ => absurd h (Nat.not_lt_zero _))
  | d + 1 => by
    have ih := ok_all_told T d
    have i1 := ok_If_of ih
    have i2 := ok_While_of ih
    refine T.F_all_told.ok sc_all_told (fun vs H Q E h => ?_) (fun cdv A outer s H vs Q E hr h => ?_)
    · obtain ⟨a, xs, ts, rfl, _⟩ := h
      rfl
    · obtain ⟨a, xs, ts, rfl, ha, os, hd, hc, q⟩ := h
      have hlen := len_cnts ts
      refine ⟨_, (pss_one (ps_ret (pe_callTy (tuple_ofK (K := K) rfl) (by rfl) T.n_tuple PyProof.Rows.boot_tuple (pa_cons (pe_lc (own := [("row", 1)]) (g := gName 1) (tt := tYes) rfl sc_all_told.nd (pi_tupK (K := K) rfl (pv 0)) (blkOk_by (own := [("row", 1)]) (N := ["rows", "row"]) (sc := defScope s_all_told) (by decide +kernel)) (fun _ _ _ _ _ => pg_name (i := 1) sc_all_told.nd rfl (Or.inl rfl)) (fun _ _ _ _ _ => pts_nil) (fun _ _ _ _ _ => (peAlt (pe_meth0 (pv 1) T.cl_TellRow T.M_TellRow_told (ok_TellRow_told T d) (hr.mono (by omega)) T.B_TellRow_told .nil pass0) (peAlt (pe_meth0 (pv 1) T.cl_BackRow T.M_BackRow_told (ok_BackRow_told T d) (hr.mono (by omega)) T.B_BackRow_told .nil pass0) (peAlt (pe_meth0 (pv 1) T.cl_IfRow T.M_IfRow_told i1 (hr.mono (by omega)) T.B_IfRow_told .nil pass0) (pe_meth0 (pv 1) T.cl_WhileRow T.M_WhileRow_told i2 (hr.mono (by omega)) T.B_WhileRow_told .nil pass0)))))) pa_nil)))), ?_⟩
      refine ⟨_, rfl, a, rfl, ⟨_, SqT.of ha⟩, fun D hD => ?_⟩
      refine lc_tup (K := K) (a := a) (xs := xs) (fun i H' => ∃ acc : List V, Same H H' ∧ H' D = some (.lst acc) ∧ acc.length = i) ⟨[], same_upd hD, upd_same, rfl⟩ (fun i H' _ ⟨_, s, _⟩ => SqT.of (s _ _ ha)) ?_ ?_
      · rintro i x H' hx ⟨acc, s1, hacc, hl⟩
        obtain ⟨t, ht⟩ := vget os.len hx
        obtain ⟨x', hx', o⟩ := os.get ht
        have e : x' = x := by
          rw [hx] at hx'
          exact (Option.some.inj hx').symm
        subst e
        have hm := List.mem_of_getElem? ht
        have h1 := deps_mem hm
        have h2 := cnt_le_of_mem hm
        have hi := (List.getElem?_eq_some_iff.mp ht).1
        refine ⟨rfl, yes (told_alt (d := d) (v := x') (fun R h => ⟨_, rfl, h⟩) (o.keep (Keep.of s1)) (by omega) (by omega) fun H3 g ws s3 _ _ => ?_)⟩
        exact ⟨acc, s3 _ _ hacc, small1000 (by omega), acc ++ [.ref g], same_updT (s1.trans s3) hD, upd_same, by simp [hl]⟩
      · rintro H' ⟨acc, s1, hacc, hl⟩
        exact ⟨D, acc, rfl, .inl ⟨SqL.of hacc, fun l hl => q _ _ _ (s1.trans (same_upd hl)) (s1.free hl) upd_same⟩⟩
theorem ok_IfRow_told (T : Tx K mg) (d : Nat) : FnOk P w K mg base CX0 (2 * d + 2) T.f_IfRow_told T.d_IfRow_told ["self"] (spTold T isIf d) := ok_If_of (ok_all_told T d)
theorem ok_WhileRow_told (T : Tx K mg) (d : Nat) : FnOk P w K mg base CX0 (2 * d + 2) T.f_WhileRow_told T.d_WhileRow_told ["self"] (spTold T isWhile d) := ok_While_of (ok_all_told T d)
/-! row_of -/
def spRowsOf (T : Tx K mg) (d : Nat) : Sp := fun vs H Q _ => ∃ (a : Addr) (xs : List V) (ts : List Tr), vs = [.ref a] ∧ H a = some (.tup xs) ∧ TellsAt H ts xs ∧ deps ts < d ∧ cnts ts ≤ 1000 ∧ ∀ (H' : Hp) (q : Addr) (ws : List V), Same H H' → H q = none → H' q = some (.tup ws) → ObjsAt T H' ts ws → Q (.ref q) H'
def spRowOf (T : Tx K mg) (f : Tr → Prop) (d : Nat) : Sp := fun vs H Q _ => ∃ (v : V) (r : Tr), vs = [v] ∧ TellAt H r v ∧ f r ∧ dep r ≤ d ∧ cnt r ≤ 1000 ∧ ∀ (H' : Hp) (v' : V), Same H H' → ObjAt T H' r v' → Q v' H'
def isBlock : Tr → Prop
  | .ife _ _ _ => True
  | .whl _ _ => True
  | _ => False
theorem ok_block_of_of {T : Tx K mg} {d : Nat} (ih : FnOk P w K mg base CX0 (4 * d + 1) T.f_rows_of T.d_rows_of ["some"] (spRowsOf T d)) : FnOk P w K mg base CX0 (4 * d + 3) T.f_block_of T.d_block_of ["told"] (spRowOf T isBlock d) := by
  refine T.F_block_of.ok sc_block_of (fun vs H Q E h => ?_) (fun cdv A outer s H vs Q E hr h => ?_)
  · obtain ⟨v, r, rfl, _⟩ := h
    rfl
  · obtain ⟨v, r, rfl, o, hi, hd, hc, q⟩ := h
    refine ⟨_, (pss_cons (ps_if (pt_cmpR op_eq (pe_ix (ix_tupK (K := K) rfl) (pv 0) pe_int (fun _ _ => rfl)) pe_str (nomark _))
        (pss_one (ps_ret (pe_make T.Mk_IfRow (ok_IfRow_init T) (hr.mono (by omega)) rfl T.c_IfRow T.B_IfRow_init .nil pass0 (pa_cons (pe_ix (ix_tupK (K := K) rfl) (pv 0) pe_int (fun _ _ => rfl)) (pa_cons (pe_call ih (hr.mono (by omega)) rfl T.m_rows_of T.F_rows_of.kp T.B_rows_of .nil pass0 (pa_cons (pe_ix (ix_tupK (K := K) rfl) (pv 0) pe_int (fun _ _ => rfl)) pa_nil)) (pa_cons (pe_call ih (hr.mono (by omega)) rfl T.m_rows_of T.F_rows_of.kp T.B_rows_of .nil pass0 (pa_cons (pe_ix (ix_tupK (K := K) rfl) (pv 0) pe_int (fun _ _ => rfl)) pa_nil)) pa_nil))))))
        pss_nil)
      (pss_one (ps_ret (pe_make T.Mk_WhileRow (ok_WhileRow_init T) (hr.mono (by omega)) rfl T.c_WhileRow T.B_WhileRow_init .nil pass0 (pa_cons (pe_ix (ix_tupK (K := K) rfl) (pv 0) pe_int (fun _ _ => rfl)) (pa_cons (pe_call ih (hr.mono (by omega)) rfl T.m_rows_of T.F_rows_of.kp T.B_rows_of .nil pass0 (pa_cons (pe_ix (ix_tupK (K := K) rfl) (pv 0) pe_int (fun _ _ => rfl)) pa_nil)) pa_nil)))))), ?_⟩
    cases r with
    | tell n => exact hi.elim
    | back => exact hi.elim
    | ife c a b =>
      obtain ⟨p, pa, pb, va, vb, rfl, hp, ha, hb, oa, ob⟩ := id o
      simp only [dep] at hd
      simp only [cnt] at hc
      refine ⟨_, rfl, p, _, _, _, rfl, rfl, SqT.of hp, atI_nat (j := 0) rfl, rfl, _, rfl, iteDT (by decide +kernel) ?_⟩
      refine ⟨_, rfl, p, _, _, _, rfl, rfl, SqT.of hp, atI_nat (j := 1) rfl, ?_⟩
      refine ⟨_, rfl, p, _, _, _, rfl, rfl, SqT.of hp, atI_nat (j := 2) rfl, pa, va, a, rfl, ha, oa, by omega, by omega, fun H1 q1 w1 s1 n1 h1 o1 => ?_⟩
      refine ⟨_, rfl, p, _, _, _, rfl, rfl, SqT.of (s1 _ _ hp), atI_nat (j := 3) rfl, pb, vb, b, rfl, s1 _ _ hb, ob.keep (Keep.of s1), by omega, by omega, fun H2 q2 w2 s2 n2 h2 o2 => ?_⟩
      intro x dx nx ndx nex
      have s3 := same_made (C := T.a_IfRow) (fs := []) nx ndx
      refine ⟨x, dx, q1, q2, _, w1, w2, rfl, upd_same, s3 _ _ (s2 _ _ h1), s3 _ _ h2, rfl, ?_⟩
      have s4 : Same H2 (upd (upd (upd H2 dx (.own x)) x (.ins T.a_IfRow dx [])) x (.ins T.a_IfRow dx (fsIf (.int c) (.ref q1) (.ref q2)))) := by
        rw [upd_upd]
        exact same_made nx ndx
      refine q _ _ (s1.trans (s2.trans s4)) ⟨x, dx, q1, q2, w1, w2, rfl, upd_same, s4 _ _ (s2 _ _ h1), s4 _ _ h2, o1.keep (Keep.of (s2.trans s4)), o2.keep (Keep.of s4)⟩
    | whl c a =>
      obtain ⟨p, pa, va, rfl, hp, ha, oa⟩ := id o
      simp only [dep] at hd
      simp only [cnt] at hc
      refine ⟨_, rfl, p, _, _, _, rfl, rfl, SqT.of hp, atI_nat (j := 0) rfl, rfl, _, rfl, iteDF (by decide +kernel) ?_⟩
      refine ⟨_, rfl, p, _, _, _, rfl, rfl, SqT.of hp, atI_nat (j := 1) rfl, ?_⟩
      refine ⟨_, rfl, p, _, _, _, rfl, rfl, SqT.of hp, atI_nat (j := 2) rfl, pa, va, a, rfl, ha, oa, by omega, by omega, fun H1 q1 w1 s1 n1 h1 o1 => ?_⟩
      intro x dx nx ndx nex
      have s3 := same_made (C := T.a_WhileRow) (fs := []) nx ndx
      refine ⟨x, dx, q1, _, w1, rfl, upd_same, s3 _ _ h1, rfl, ?_⟩
      have s4 : Same H1 (upd (upd (upd H1 dx (.own x)) x (.ins T.a_WhileRow dx [])) x (.ins T.a_WhileRow dx (fsWhile (.int c) (.ref q1)))) := by
        rw [upd_upd]
        exact same_made nx ndx
      refine q _ _ (s1.trans s4) ⟨x, dx, q1, w1, rfl, upd_same, s4 _ _ h1, o1.keep (Keep.of s4)⟩
theorem ok_row_of_of {T : Tx K mg} {d : Nat} (ih : FnOk P w K mg base CX0 (4 * d + 3) T.f_block_of T.d_block_of ["told"] (spRowOf T isBlock d)) : FnOk P w K mg base CX0 (4 * d + 4) T.f_row_of T.d_row_of ["told"] (spRowOf T (fun _ => True) d) := by
  refine T.F_row_of.ok sc_row_of (fun vs H Q E h => ?_) (fun cdv A outer s H vs Q E hr h => ?_)
  · obtain ⟨v, r, rfl, _⟩ := h
    rfl
  · obtain ⟨v, r, rfl, o, hi, hd, hc, q⟩ := h
    refine ⟨_, (pss_cons (ps_set (i := 1) sc_row_of.nd rfl (Or.inl rfl) (pe_ix (ix_tupK (K := K) rfl) (pv 0) pe_int (fun _ _ => rfl)))
      (pss_cons (ps_if (pt_cmpR (in_seqK (K := K) rfl) (pv 1) (pe_tup (pa_cons pe_str (pa_cons pe_str pa_nil))) (by rfl))
        (pss_one (ps_ret (pe_call ih (hr.mono (by omega)) rfl T.m_block_of T.F_block_of.kp T.B_block_of .nil pass0 (pa_cons (pv 0) pa_nil))))
        pss_nil)
      (pss_cons (ps_if (pt_cmpR op_eq (pv 1) pe_str (nomark _))
        pss_never
        pss_nil)
      (pss_cons (ps_if (pt_cmpR (in_seqK (K := K) rfl) (pv 1) (pe_tup (pa_cons pe_str (pa_cons pe_str pa_nil))) (by rfl))
        pss_never
        pss_nil)
      (pss_cons (ps_if (pt_cmpR op_eq (pv 1) pe_str (nomark _))
        pss_never
        pss_nil)
      (pss_cons (ps_if (pt_cmpR op_eq (pv 1) pe_str (nomark _))
        pss_never
        pss_nil)
      (pss_cons (ps_if (pt_cmpR op_eq (pv 1) pe_str (nomark _))
        (pss_one (ps_ret (pe_make T.Mk_BackRow (ok_BackRow_init T) (hr.mono (by omega)) rfl T.c_BackRow T.B_BackRow_init .nil pass0 (pa_cons (pe_ix (ix_tupK (K := K) rfl) (pv 0) pe_int (fun _ _ => rfl)) pa_nil))))
        pss_nil)
      (pss_cons (ps_if (pt_cmpR op_eq (pv 1) pe_str (nomark _))
        pss_never
        pss_nil)
      (pss_cons (ps_if (pt_cmpR op_eq (pv 1) pe_str (nomark _))
        (pss_one (ps_ret (pe_make T.Mk_TellRow (ok_TellRow_init T) (hr.mono (by omega)) rfl T.c_TellRow T.B_TellRow_init .nil pass0 (pa_cons (pe_ix (ix_tupK (K := K) rfl) (pv 0) pe_int (fun _ _ => rfl)) pa_nil))))
        pss_nil)
      (pss_one ps_never)))))))))), ?_⟩
    cases r with
    | ife c a b =>
      obtain ⟨p, pa, pb, va, vb, rfl, hp, ha, hb, oa, ob⟩ := id o
      refine ⟨_, rfl, p, _, _, _, rfl, rfl, SqT.of hp, atI_nat (j := 0) rfl, ?_⟩
      refine ⟨_, rfl, (by show 2 ≤ sizeLine; decide), fun g hg => ⟨g, _, rfl, .inr (SqT.of upd_same), rfl, rfl, _, rfl, iteBT (by decide +kernel) ?_⟩⟩
      have s1 := same_upd (o := .tup [V.str "if", V.str "while"]) hg
      exact ⟨_, rfl, _, .ife c a b, rfl, o.keep (Keep.of s1), trivial, hd, hc, fun H' v' s2 o2 => q _ _ (s1.trans s2) o2⟩
    | whl c a =>
      obtain ⟨p, pa, va, rfl, hp, ha, oa⟩ := id o
      refine ⟨_, rfl, p, _, _, _, rfl, rfl, SqT.of hp, atI_nat (j := 0) rfl, ?_⟩
      refine ⟨_, rfl, (by show 2 ≤ sizeLine; decide), fun g hg => ⟨g, _, rfl, .inr (SqT.of upd_same), rfl, rfl, _, rfl, iteBT (by decide +kernel) ?_⟩⟩
      have s1 := same_upd (o := .tup [V.str "if", V.str "while"]) hg
      exact ⟨_, rfl, _, .whl c a, rfl, o.keep (Keep.of s1), trivial, hd, hc, fun H' v' s2 o2 => q _ _ (s1.trans s2) o2⟩
    | back =>
      obtain ⟨p, rfl, hp⟩ := id o
      refine ⟨_, rfl, p, _, _, _, rfl, rfl, SqT.of hp, atI_nat (j := 0) rfl, ?_⟩
      refine ⟨_, rfl, (by show 2 ≤ sizeLine; decide), fun g hg => ⟨g, _, rfl, .inr (SqT.of upd_same), rfl, rfl, _, rfl, iteBF (by decide +kernel) ?_⟩⟩
      have s1 := same_upd (o := .tup [V.str "if", V.str "while"]) hg
      have hp1 := s1 _ _ hp
      generalize upd _ g _ = H1 at s1 hp1
      refine ⟨_, rfl, rfl, _, rfl, iteDF (by decide +kernel) ?_⟩
      refine ⟨_, rfl, (by show 2 ≤ sizeLine; decide), fun g2 hg2 => ⟨g2, _, rfl, .inr (SqT.of upd_same), rfl, rfl, _, rfl, iteBF (by decide +kernel) ?_⟩⟩
      have s2 := s1.trans (same_upd (o := .tup [V.str "look", V.str "hand"]) hg2)
      have hp2 := same_upd (o := .tup [V.str "look", V.str "hand"]) hg2 _ _ hp1
      generalize upd _ g2 _ = H2 at s2 hp2
      refine ⟨_, rfl, rfl, _, rfl, iteDF (by decide +kernel) ?_⟩
      refine ⟨_, rfl, rfl, _, rfl, iteDF (by decide +kernel) ?_⟩
      refine ⟨_, rfl, rfl, _, rfl, iteDT (by decide +kernel) ?_⟩
      refine ⟨_, rfl, p, _, _, _, rfl, rfl, SqT.of hp2, atI_nat (j := 1) rfl, ?_⟩
      intro x dx nx ndx nex
      refine ⟨x, dx, _, rfl, upd_same, rfl, q _ _ (s2.trans ?_) ⟨x, dx, rfl, upd_same⟩⟩
      rw [upd_upd]
      exact same_made nx ndx
    | tell n =>
      obtain ⟨p, rfl, hp⟩ := id o
      refine ⟨_, rfl, p, _, _, _, rfl, rfl, SqT.of hp, atI_nat (j := 0) rfl, ?_⟩
      refine ⟨_, rfl, (by show 2 ≤ sizeLine; decide), fun g hg => ⟨g, _, rfl, .inr (SqT.of upd_same), rfl, rfl, _, rfl, iteBF (by decide +kernel) ?_⟩⟩
      have s1 := same_upd (o := .tup [V.str "if", V.str "while"]) hg
      have hp1 := s1 _ _ hp
      generalize upd _ g _ = H1 at s1 hp1
      refine ⟨_, rfl, rfl, _, rfl, iteDF (by decide +kernel) ?_⟩
      refine ⟨_, rfl, (by show 2 ≤ sizeLine; decide), fun g2 hg2 => ⟨g2, _, rfl, .inr (SqT.of upd_same), rfl, rfl, _, rfl, iteBF (by decide +kernel) ?_⟩⟩
      have s2 := s1.trans (same_upd (o := .tup [V.str "look", V.str "hand"]) hg2)
      have hp2 := same_upd (o := .tup [V.str "look", V.str "hand"]) hg2 _ _ hp1
      generalize upd _ g2 _ = H2 at s2 hp2
      refine ⟨_, rfl, rfl, _, rfl, iteDF (by decide +kernel) ?_⟩
      refine ⟨_, rfl, rfl, _, rfl, iteDF (by decide +kernel) ?_⟩
      refine ⟨_, rfl, rfl, _, rfl, iteDF (by decide +kernel) ?_⟩
      refine ⟨_, rfl, rfl, _, rfl, iteDF (by decide +kernel) ?_⟩
      refine ⟨_, rfl, rfl, _, rfl, iteDT (by decide +kernel) ?_⟩
      refine ⟨_, rfl, p, _, _, _, rfl, rfl, SqT.of hp2, atI_nat (j := 1) rfl, ?_⟩
      intro x dx nx ndx nex
      refine ⟨x, dx, _, rfl, upd_same, rfl, q _ _ (s2.trans ?_) ⟨x, dx, rfl, upd_same⟩⟩
      rw [upd_upd]
      exact same_made nx ndx
theorem ok_rows_of (T : Tx K mg) : ∀ d : Nat, FnOk P w K mg base CX0 (4 * d + 1) T.f_rows_of T.d_rows_of ["some"] (spRowsOf T d)
  | 0 => T.F_rows_of.ok sc_rows_of (fun vs H Q E ⟨a, xs, ts, _, _, _, h, _⟩ => absurd h (Nat.not_lt_zero _)) (fun cdv A outer s H vs Q E hr ⟨a, xs, ts, _, _, _, h, _⟩ => absurd h (Nat.not_lt_zero _))
  | d + 1 => by
    have ih := ok_row_of_of (ok_block_of_of (ok_rows_of T d))
    refine T.F_rows_of.ok sc_rows_of (fun vs H Q E h => ?_) (fun cdv A outer s H vs Q E hr h => ?_)
    · obtain ⟨a, xs, ts, rfl, _⟩ := h
      rfl
    · obtain ⟨a, xs, ts, rfl, ha, os, hd, hc, q⟩ := h
      have hlen := len_cnts ts
      refine ⟨_, (pss_one (ps_ret (pe_callTy (tuple_ofK (K := K) rfl) (by rfl) T.n_tuple PyProof.Rows.boot_tuple (pa_cons (pe_lc (own := [("told", 1)]) (g := gName 1) (tt := tYes) rfl sc_rows_of.nd (pi_tupK (K := K) rfl (pv 0)) (blkOk_by (own := [("told", 1)]) (N := ["some", "told"]) (sc := defScope s_rows_of) (by decide +kernel)) (fun _ _ _ _ _ => pg_name (i := 1) sc_rows_of.nd rfl (Or.inl rfl)) (fun _ _ _ _ _ => pts_nil) (fun _ _ _ _ _ => (pe_call ih (hr.mono (by omega)) rfl T.m_row_of T.F_row_of.kp T.B_row_of .nil pass0 (pa_cons (pv 1) pa_nil)))) pa_nil)))), ?_⟩
      refine ⟨_, rfl, a, rfl, ⟨_, SqT.of ha⟩, fun D hD => ?_⟩
      refine lc_tup (K := K) (a := a) (xs := xs) (fun i H' => ∃ acc : List V, Same H H' ∧ H' D = some (.lst acc) ∧ ObjsAt T H' (ts.take i) acc) ⟨[], same_upd hD, upd_same, by simp [ObjsAt]⟩ (fun i H' _ ⟨_, s, _⟩ => SqT.of (s _ _ ha)) ?_ ?_
      · rintro i x H' hx ⟨acc, s1, hacc, hl⟩
        obtain ⟨t, ht⟩ := vget os.len hx
        obtain ⟨x', hx', o⟩ := os.get ht
        have e : x' = x := by
          rw [hx] at hx'
          exact (Option.some.inj hx').symm
        subst e
        have hm := List.mem_of_getElem? ht
        have h1 := deps_mem hm
        have h2 := cnt_le_of_mem hm
        have hi := (List.getElem?_eq_some_iff.mp ht).1
        have hal := hl.len
        rw [List.length_take] at hal
        refine ⟨rfl, yes ⟨_, rfl, x', t, rfl, o.keep (Keep.of s1), trivial, by omega, by omega, fun H3 v' s3 o3 => ?_⟩⟩
        have k4 : Keep H3 (upd H3 D (.lst (acc ++ [v']))) := Keep.butL (f := D) (fun b u e n => by rw [upd_ne n]; exact e) (s3 _ _ hacc)
        refine ⟨acc, s3 _ _ hacc, small1000 (by omega), acc ++ [v'], same_updT (s1.trans s3) hD, upd_same, ?_⟩
        rw [List.take_add_one, ht]
        exact ObjsAt.snoc (o3.keep k4) (hl.keep ((Keep.of s3).trans k4))
      · rintro H' ⟨acc, s1, hacc, hl⟩
        rw [os.len, List.take_length] at hl
        exact ⟨D, acc, rfl, .inl ⟨SqL.of hacc, fun l hl2 => q _ _ _ (s1.trans (same_upd hl2)) (s1.free hl2) upd_same (hl.keep (Keep.of (same_upd hl2)))⟩⟩
theorem ok_row_of (T : Tx K mg) (d : Nat) : FnOk P w K mg base CX0 (4 * d + 4) T.f_row_of T.d_row_of ["told"] (spRowOf T (fun _ => True) d) := ok_row_of_of (ok_block_of_of (ok_rows_of T d))
/-! Helper(..) -/
def fsHelper (n p g r : V) : List (Str × V) := putF "rows" r (putF "gives" g (putF "params" p (putF "name" n [])))
def spInitHelper (C : Addr) : Sp := fun vs H Q _ => ∃ (x dx pp pr : Addr) (n g : V) (vp vr : List V), vs = [.ref x, n, .ref pp, g, .ref pr] ∧ H x = some (.ins C dx []) ∧ H pp = some (.tup vp) ∧ H pr = some (.tup vr) ∧ Q .non (upd H x (.ins C dx (fsHelper n (.ref pp) g (.ref pr))))
theorem ok_Helper_init (T : Tx K mg) : FnOk P w K mg base CX0 1 T.f_Helper_init T.d_Helper_init ["self", "name", "params", "gives", "rows"] (spInitHelper T.a_Helper) := by
  refine T.F_Helper_init.ok sc_Helper_init (fun vs H Q E h => ?_) (fun cdv A outer s H vs Q E hr h => ?_)
  · obtain ⟨x, dx, pp, pr, n, g, vp, vr, rfl, _⟩ := h
    rfl
  · obtain ⟨x, dx, pp, pr, n, g, vp, vr, rfl, hx, ha, hb, q⟩ := h
    have n1 : pp ≠ x := ne_of ha hx (by intro z; cases z)
    have n2 : pr ≠ x := ne_of hb hx (by intro z; cases z)
    have l1 := putF_len (f := "name") (v := n) []
    have l2 := putF_len (f := "params") (v := .ref pp) (putF "name" n [])
    have l3 := putF_len (f := "gives") (v := g) (putF "params" (.ref pp) (putF "name" n []))
    simp only [List.length_nil] at l1
    refine ⟨_, (pss_cons (ps_fld (pv 0) (pv 1) rfl)
      (pss_cons (ps_fld (pv 0) (pe_callTy (tuple_ofK (K := K) rfl) (by rfl) T.n_tuple PyProof.Rows.boot_tuple (pa_cons (pv 2) pa_nil)) rfl)
      (pss_cons (ps_fld (pv 0) (pv 3) rfl)
      (pss_one (ps_fld (pv 0) (pe_callTy (tuple_ofK (K := K) rfl) (by rfl) T.n_tuple PyProof.Rows.boot_tuple (pa_cons (pv 4) pa_nil)) rfl))))), ?_⟩
    refine ⟨_, rfl, _, rfl, x, _, dx, [], rfl, hx, T.cl_Helper, T.na_Helper_name, (by show 0 < 1000; decide), ?_⟩
    refine ⟨_, rfl, pp, vp, rfl, .inr ⟨SqT.of (by rw [upd_ne n1]; exact ha), ?_⟩⟩
    refine ⟨_, rfl, x, _, dx, _, rfl, upd_same, T.cl_Helper, T.na_Helper_params, (by omega), ?_⟩
    rw [upd_upd]
    refine ⟨_, rfl, _, rfl, x, _, dx, _, rfl, upd_same, T.cl_Helper, T.na_Helper_gives, (by omega), ?_⟩
    rw [upd_upd]
    refine ⟨_, rfl, pr, vr, rfl, .inr ⟨SqT.of (by rw [upd_ne n2]; exact hb), ?_⟩⟩
    refine ⟨_, rfl, x, _, dx, _, rfl, upd_same, T.cl_Helper, T.na_Helper_rows, (by omega), ?_⟩
    rw [upd_upd]
    exact q
theorem helper_rows (n p g r : V) : (fsHelper n p g r).lookup ("rows" : Str) = some r := by
  unfold fsHelper
  walk_at "flook"
/-- a helper with rows -/
def HelperAt (T : Tx K mg) (H : Hp) (ts : List Tr) (v : V) : Prop := ∃ (p dx pr : Addr) (xs : List V) (n pp g : V), v = .ref p ∧ H p = some (.ins T.a_Helper dx (fsHelper n pp g (.ref pr))) ∧ H pr = some (.tup xs) ∧ ObjsAt T H ts xs
theorem HelperAt.keep {T : Tx K mg} {H H' : Hp} {ts : List Tr} {v : V} (h : HelperAt T H ts v) (k : Keep H H') : HelperAt T H' ts v := by
  obtain ⟨p, dx, pr, xs, n, pp, g, e, h1, h2, h3⟩ := h
  exact ⟨p, dx, pr, xs, n, pp, g, e, k _ _ h1 trivial, k _ _ h2 trivial, h3.keep k⟩
end
/-! ### followers -/
section
variable {P : Program} {w : World} {K : PySem.W.Frag} {mg : Str → Option Value} {base : Heap}
def spBegin : Sp := fun vs H Q _ => ∃ (a : Addr) (xs : List V) (ts : List Tr) (x y : Nat), vs = [.ref a, .int (x : Int), .int (y : Int)] ∧ H a = some (.tup xs) ∧ xs.length = ts.length ∧ Q (.int (bg ts x y : Nat)) H
theorem ok_begin_of (T : Tx K mg) : FnOk P w K mg base CX0 1 T.f_begin_of T.d_begin_of ["rows", "first", "then"] spBegin := by
  refine T.F_begin_of.ok sc_begin_of (fun vs H Q E h => ?_) (fun cdv A outer s H vs Q E hr h => ?_)
  · obtain ⟨a, xs, ts, x, y, rfl, _⟩ := h
    rfl
  · obtain ⟨a, xs, ts, x, y, rfl, ha, hl, q⟩ := h
    refine ⟨_, (pss_cons (ps_if (pt_cmpR op_eq (pe_callB (len_seqK (K := K) rfl) (by rfl) T.n_len PySem.boot_len (pa_cons (pv 0) pa_nil)) pe_int (nomark _))
        (pss_one (ps_ret (pv 2)))
        pss_nil)
      (pss_one (ps_ret (pv 1)))), ?_⟩
    refine ⟨_, rfl, a, _, rfl, .inr (SqT.of ha), rfl, _, rfl, ?_⟩
    unfold bg at q
    cases ts with
    | nil => 
      have e : xs = [] := List.eq_nil_of_length_eq_zero hl
      subst e
      exact iteDT rfl ⟨_, rfl, q⟩
    | cons t ts =>
      refine iteDF (fun e => ?_) ⟨_, rfl, q⟩
      have e' := V.int.inj e
      simp only [hl, List.length_cons] at e'
      omega
def spLink (T : Tx K mg) (d : Nat) : Sp := fun vs H Q _ => ∃ (a f : Addr) (xs : List V) (ts : List Tr) (k th e : Nat) (fs : List (List Nat)) (kvs : List (Key × V)), vs = [.ref a, .int (k : Int), .int (th : Int), .int (e : Int), .ref f] ∧ H a = some (.tup xs) ∧ ObjsAt T H ts xs ∧ deps ts < d ∧ k + cnts ts ≤ 1000 ∧
  H f = some (.dK kvs) ∧ FolAt H 0 fs kvs ∧ fs.length = k ∧ ∀ (H' : Hp) (kvs' : List (Key × V)), SameBut f H H' → H' f = some (.dK kvs') → FolAt H' 0 (fs ++ fol e ts k th) kvs' → Q .non H'
theorem cut_one {xs : List V} {i : Nat} {x : V} (h : xs[i]? = some x) : cutV xs (some (i : Int)) (some ((i : Int) + 1)) = [x] := by
  have hi := (List.getElem?_eq_some_iff.mp h).1
  unfold cutV
  rw [HT.sIx_nat, show ((i : Int) + 1) = ((i + 1 : Nat) : Int) by omega, HT.sIx_nat, Nat.min_eq_left (by omega), Nat.min_eq_left (by omega)]
  have e : xs[i] = x := by
    rw [List.getElem?_eq_getElem hi] at h
    exact Option.some.inj h
  rw [List.drop_eq_getElem_cons hi, e, show i + 1 - i = 1 by omega]
  rfl
/-- found[at] = a new tuple -/
theorem fol_put {H : Hp} {f p : Addr} {kvs : List (Key × V)} {fs : List (List Nat)} {n : List Nat} {k : Nat} (hf : H f = some (.dK kvs)) (F : FolAt H 0 fs kvs) (hk : fs.length = k) (hp : H p = some (.tup (vN n))) (hl : k ≤ 1000) :
    ∃ kvs', DPut H f (.int (k : Int)) (.ref p) (upd H f (.dK kvs')) ∧ FolAt (upd H f (.dK kvs')) 0 (fs ++ [n]) kvs' := by
  refine ⟨kvs ++ [((Sum.inl (k : Int) : Key), V.ref p)], ?_, ?_⟩
  · have e : putK kvs (Sum.inl (k : Int) : Key) (V.ref p) = kvs ++ [((Sum.inl (k : Int) : Key), V.ref p)] := putK_new _ (F.none (by omega))
    rw [← e]
    exact DPut.k (k := Sum.inl (k : Int)) hf (small1000 (by have := F.len; omega))
  · have kp : Keep H (upd H f (.dK (kvs ++ [((Sum.inl (k : Int) : Key), V.ref p)]))) := Keep.but (f := f) (fun b u e n => by rw [upd_ne n]; exact e) hf
    exact FolAt.snoc (kp _ _ hp trivial) (F.keep kp) (by omega)
theorem slT {H : Hp} {Q : VK} {a : Addr} {xs ys : List V} {lo hi : Option Int} (h : H a = some (.tup xs)) (e : cutV xs lo hi = ys) (k : ∀ (H' : Hp) (b : Addr), Same H H' → H' b = some (.tup ys) → Q (.ref b) H') : rSlA K (.ref a) lo hi H Q := by
  refine ⟨a, xs, rfl, SqT.of h, fun hw => k H a (Same.refl _) ?_, fun _ p hp => k _ p (same_upd hp) (by rw [upd_same, e])⟩
  rw [← e, h]
  unfold cutV
  rw [hw.1, hw.2, List.drop_zero, Nat.sub_zero, List.take_length]
theorem SameBut.upd {f : Addr} {H H' : Hp} {o : HO} (s : SameBut f H H') : SameBut f H (upd H' f o) := fun b u e n => by
  rw [upd_ne n]
  exact s b u e n
theorem SameBut.trans {f : Addr} {H H1 H2 : Hp} (a : SameBut f H H1) (b : SameBut f H1 H2) : SameBut f H H2 := fun c o e n => b c o (a c o e n) n
theorem SameBut.of {f : Addr} {H H' : Hp} (s : Same H H') : SameBut f H H' := fun b o e _ => s b o e
theorem ok_link (T : Tx K mg) : ∀ d : Nat, FnOk P w K mg base CX0 (2 * d + 3) T.f_link T.d_link ["rows", "first", "then", "end", "found"] (spLink T d)
  | 0 => T.F_link.ok sc_link (fun vs H Q E ⟨a, f, xs, ts, k, th, e, fs, kvs, _, _, _, h, _⟩ => absurd h (Nat.not_lt_zero _)) (fun cdv A outer s H vs Q E hr ⟨a, f, xs, ts, k, th, e, fs, kvs, _, _, _, h, _⟩ => absurd h (Nat.not_lt_zero _))
  | d + 1 => by
    have ih := ok_link T d
    refine T.F_link.ok sc_link (fun vs H Q E h => ?_) (fun cdv A outer s H vs Q E hr h => ?_)
    · obtain ⟨a, f, xs, ts, k, th, e, fs, kvs, rfl, _⟩ := h
      rfl
    · obtain ⟨a, f, xs, ts, k, th, e, fs, kvs, rfl, ha, os, hd, hc, hf, F, hk, q⟩ := h
      have hu := hu_of hr
      have hlen := len_cnts ts
      refine ⟨_, (pss_cons (ps_set (i := 5) sc_link.nd rfl (Or.inl rfl) (pv 1))
      (pss_one (ps_for PassesOwn.never rfl (pi_range1 rfl T.n_range (pa_cons (pe_callB (len_seqK (K := K) rfl) (by rfl) T.n_len PySem.boot_len (pa_cons (pv 0) pa_nil)) pa_nil)) (pg_name (i := 6) sc_link.nd rfl (Or.inl rfl))
        (pss_cons (ps_set (i := 7) sc_link.nd rfl (Or.inl rfl) (peAlt (pe_meth0 (pe_ix (ix_tupK (K := K) rfl) (pv 0) (pv 6) (fun _ _ => rfl)) T.cl_TellRow T.M_TellRow_inner (ok_Row_inner T) (hr.mono (by omega)) T.B_Row_inner .nil pass0) (peAlt (pe_meth0 (pe_ix (ix_tupK (K := K) rfl) (pv 0) (pv 6) (fun _ _ => rfl)) T.cl_BackRow T.M_BackRow_inner (ok_Row_inner T) (hr.mono (by omega)) T.B_Row_inner .nil pass0) (peAlt (pe_meth0 (pe_ix (ix_tupK (K := K) rfl) (pv 0) (pv 6) (fun _ _ => rfl)) T.cl_IfRow T.M_IfRow_inner (ok_IfRow_inner T) (hr.mono (by omega)) T.B_IfRow_inner .nil pass0) (pe_meth0 (pe_ix (ix_tupK (K := K) rfl) (pv 0) (pv 6) (fun _ _ => rfl)) T.cl_WhileRow T.M_WhileRow_inner (ok_WhileRow_inner T) (hr.mono (by omega)) T.B_WhileRow_inner .nil pass0)))))
        (pss_cons (ps_set (i := 8) sc_link.nd rfl (Or.inl rfl) (pe_op op_add (pv 5) (pe_call (ok_count_of T (d + 1)) (hr.mono (by omega)) rfl T.m_count_of T.F_count_of.kp T.B_count_of .nil pass0 (pa_cons (pe_slice (sl_tupAK (K := K) rfl) (pv 0) (po_some (pv 6)) (po_some (pe_op op_add (pv 6) pe_int))) pa_nil))))
        (pss_cons (ps_set (i := 9) sc_link.nd rfl (Or.inl rfl) (pv 8))
        (pss_cons (ps_if (pt_cmpR op_eq (pv 6) (pe_op op_sub (pe_callB (len_seqK (K := K) rfl) (by rfl) T.n_len PySem.boot_len (pa_cons (pv 0) pa_nil)) pe_int) (nomark _))
          (pss_one (ps_set (i := 9) sc_link.nd rfl (Or.inl rfl) (pv 2)))
          pss_nil)
        (pss_cons (ps_if (pt_cmpR op_eq (pe_ix (ix_tupK (K := K) rfl) (peAlt (pe_meth0 (pe_ix (ix_tupK (K := K) rfl) (pv 0) (pv 6) (fun _ _ => rfl)) T.cl_TellRow T.M_TellRow_told (ok_TellRow_told T d) (hr.mono (by omega)) T.B_TellRow_told .nil pass0) (peAlt (pe_meth0 (pe_ix (ix_tupK (K := K) rfl) (pv 0) (pv 6) (fun _ _ => rfl)) T.cl_BackRow T.M_BackRow_told (ok_BackRow_told T d) (hr.mono (by omega)) T.B_BackRow_told .nil pass0) (peAlt (pe_meth0 (pe_ix (ix_tupK (K := K) rfl) (pv 0) (pv 6) (fun _ _ => rfl)) T.cl_IfRow T.M_IfRow_told (ok_IfRow_told T d) (hr.mono (by omega)) T.B_IfRow_told .nil pass0) (pe_meth0 (pe_ix (ix_tupK (K := K) rfl) (pv 0) (pv 6) (fun _ _ => rfl)) T.cl_WhileRow T.M_WhileRow_told (ok_WhileRow_told T d) (hr.mono (by omega)) T.B_WhileRow_told .nil pass0)))) pe_int (fun _ _ => rfl)) pe_str (nomark _))
          (pss_one (ps_dput hu (pv 4) (pv 5) (pe_tup (pa_cons (pv 3) pa_nil)) rfl))
          (pss_one (ps_if (pt_cmpR op_eq (pe_callB (len_seqK (K := K) rfl) (by rfl) T.n_len PySem.boot_len (pa_cons (pv 7) pa_nil)) pe_int (nomark _))
            (pss_one (ps_dput hu (pv 4) (pv 5) (pe_tup (pa_cons (pv 9) pa_nil)) rfl))
            (pss_one (ps_if (pt_cmpR op_eq (pe_callB (len_seqK (K := K) rfl) (by rfl) T.n_len PySem.boot_len (pa_cons (pv 7) pa_nil)) pe_int (nomark _))
              (pss_cons (ps_dput hu (pv 4) (pv 5) (pe_tup (pa_cons (pe_call (ok_begin_of T) (hr.mono (by omega)) rfl T.m_begin_of T.F_begin_of.kp T.B_begin_of .nil pass0 (pa_cons (pe_ix (ix_tupK (K := K) rfl) (pv 7) pe_int (fun _ _ => rfl)) (pa_cons (pe_op op_add (pv 5) pe_int) (pa_cons (pv 5) pa_nil)))) (pa_cons (pv 9) pa_nil))) rfl)
              (pss_one (ps_expr (pe_call ih (hr.mono (by omega)) rfl T.m_link T.F_link.kp T.B_link .nil pass0 (pa_cons (pe_ix (ix_tupK (K := K) rfl) (pv 7) pe_int (fun _ _ => rfl)) (pa_cons (pe_op op_add (pv 5) pe_int) (pa_cons (pv 5) (pa_cons (pv 3) (pa_cons (pv 4) pa_nil)))))))))
              (pss_cons (ps_set (i := 10) sc_link.nd rfl (Or.inl rfl) (pe_op op_add (pe_op op_add (pv 5) pe_int) (pe_call (ok_count_of T (d + 1)) (hr.mono (by omega)) rfl T.m_count_of T.F_count_of.kp T.B_count_of .nil pass0 (pa_cons (pe_ix (ix_tupK (K := K) rfl) (pv 7) pe_int (fun _ _ => rfl)) pa_nil))))
              (pss_cons (ps_dput hu (pv 4) (pv 5) (pe_tup (pa_cons (pe_call (ok_begin_of T) (hr.mono (by omega)) rfl T.m_begin_of T.F_begin_of.kp T.B_begin_of .nil pass0 (pa_cons (pe_ix (ix_tupK (K := K) rfl) (pv 7) pe_int (fun _ _ => rfl)) (pa_cons (pe_op op_add (pv 5) pe_int) (pa_cons (pv 9) pa_nil)))) (pa_cons (pe_call (ok_begin_of T) (hr.mono (by omega)) rfl T.m_begin_of T.F_begin_of.kp T.B_begin_of .nil pass0 (pa_cons (pe_ix (ix_tupK (K := K) rfl) (pv 7) pe_int (fun _ _ => rfl)) (pa_cons (pv 10) (pa_cons (pv 9) pa_nil)))) pa_nil))) rfl)
              (pss_cons (ps_expr (pe_call ih (hr.mono (by omega)) rfl T.m_link T.F_link.kp T.B_link .nil pass0 (pa_cons (pe_ix (ix_tupK (K := K) rfl) (pv 7) pe_int (fun _ _ => rfl)) (pa_cons (pe_op op_add (pv 5) pe_int) (pa_cons (pv 9) (pa_cons (pv 3) (pa_cons (pv 4) pa_nil)))))))
              (pss_one (ps_expr (pe_call ih (hr.mono (by omega)) rfl T.m_link T.F_link.kp T.B_link .nil pass0 (pa_cons (pe_ix (ix_tupK (K := K) rfl) (pv 7) pe_int (fun _ _ => rfl)) (pa_cons (pv 10) (pa_cons (pv 9) (pa_cons (pv 3) (pa_cons (pv 4) pa_nil))))))))))))))))
        (pss_one (ps_set (i := 5) sc_link.nd rfl (Or.inl rfl) (pv 8))))))))))), ?_⟩
      refine ⟨_, rfl, ?_⟩
      refine ⟨_, rfl, a, _, rfl, .inr (SqT.of ha), _, rfl, by omega, by rw [os.len]; omega, ?_⟩
      rw [Int.toNat_natCast, os.len]
      refine for_range (lo := 0) (n := ts.length) (fun i σ H2 => ∃ (at_ : Nat) (dn : List (List Nat)) (kvs2 : List (Key × V)) (v6 v7 v8 v9 v10 : Option V), σ = [some (.ref a), some (.int (k : Int)), some (.int (th : Int)), some (.int (e : Int)), some (.ref f), some (.int (at_ : Int)), v6, v7, v8, v9, v10] ∧
        SameBut f H H2 ∧ H2 f = some (.dK kvs2) ∧ FolAt H2 0 dn kvs2 ∧ dn.length = at_ ∧ at_ = k + cnts (ts.take i) ∧ fs ++ fol e ts k th = dn ++ fol e (ts.drop i) at_ th) ⟨k, fs, kvs, none, none, none, none, none, rfl, SameBut.of (Same.refl _), hf, F, hk, by simp [cnts], rfl⟩ ?_ ?_
      · rintro i σ H2 hi ⟨at_, dn, kvs2, v6, v7, v8, v9, v10, rfl, sm, hf2, F2, hdn, hat, hfol⟩
        obtain ⟨t, ht⟩ : ∃ t, ts[i]? = some t := ⟨_, List.getElem?_eq_getElem hi⟩
        obtain ⟨x, hx, o⟩ := os.get ht
        have hi0 : (0 : Int) + (i : Int) = i := Int.zero_add _
        rw [hi0]
        have hm := List.mem_of_getElem? ht
        have hdt := deps_mem hm
        have hct := cnt_le_of_mem hm
        have hcp := cnt_parts t
        have hsplit := cnts_split ts (i + 1)
        rw [cnts_take ht] at hsplit
        have k2 := Keep.but sm hf
        have ha2 := k2 _ _ ha trivial
        have o2 := o.keep k2
        have hxn := (List.getElem?_eq_some_iff.mp hx).1
        -- inner = rows[k].inner()
        refine inner_alt (v := x) (fun R h => ⟨_, rfl, _, rfl, a, _, _, _, rfl, rfl, SqT.of ha2, atI_nat hx, h⟩) o2 fun H3 g ws s3 _ hg pw => ?_
        have ha3 := s3 _ _ ha2
        have o3 := o2.keep (Keep.of s3)
        -- behind = at + count_of(rows[k:k + 1])
        refine ⟨_, rfl, _, rfl, _, rfl, _, rfl, _, rfl, _, _, rfl, rfl, _, rfl, slT ha3 (cut_one hx) fun H4 b s4 hb => ?_⟩
        refine ⟨b, [x], [t], rfl, hb, ⟨x, [], rfl, o3.keep (Keep.of s4), rfl⟩, by simp [deps]; omega, fun H5 s5 => ?_⟩
        rw [cnts_one]
        have s35 := s4.trans s5
        have s25 := s3.trans s35
        have ha5 := s35 _ _ ha3
        have o5 := o3.keep (Keep.of s35)
        have hg5 := s35 _ _ hg
        have pw5 := pw.keep (Keep.of s35)
        have hf5 := s25 _ _ hf2
        have F5 := F2.keep (Keep.of s25)
        have sm5 : SameBut f H H5 := sm.trans (SameBut.of s25)
        obtain ⟨bh, hbh⟩ : ∃ bh, bh = at_ + cnt t := ⟨_, rfl⟩
        have hbi : (at_ : Int) + (cnt t : Int) = (bh : Int) := by omega
        refine ⟨_, _, rfl, rfl, ?_⟩
        dsimp only
        rw [hbi]
        have hnext : fs ++ fol e ts k th = dn ++ (folR e t at_ (if i + 1 = ts.length then th else bh) ++ fol e (ts.drop (i + 1)) bh th) := by
          rw [hfol, fol_step ht, hbh]
        have hat2 : bh = k + cnts (ts.take (i + 1)) := by
          rw [cnts_take ht]
          omega
        -- after
        refine ⟨_, rfl, ?_⟩
        by_cases hlast : i + 1 = ts.length
        · refine ⟨_, rfl, _, rfl, a, _, rfl, .inr (SqT.of ha5), _, _, rfl, rfl, rfl, _, rfl, iteDT (congrArg V.int (by rw [os.len]; omega)) ⟨_, rfl, ?_⟩⟩
          rw [if_pos hlast] at hnext
          refine told_alt (d := d) (v := x) (fun R h => ⟨_, rfl, _, rfl, a, _, _, _, rfl, rfl, SqT.of ha5, atI_nat hx, h⟩) o5 (by omega) (by omega) fun H6 g6 w6 s6 _ h6 => ?_
          have k6 := Keep.of s6
          have hg6 := s6 _ _ hg5
          have pw6 := pw5.keep k6
          have hf6 := s6 _ _ hf5
          have F6 := F5.keep k6
          have sm6 : SameBut f H H6 := sm5.trans (SameBut.of s6)
          refine ⟨g6, _, _, _, rfl, rfl, SqT.of h6, atI_nat (j := 0) rfl, rfl, _, rfl, ?_⟩
          cases t with
          | back =>
            refine iteDT rfl ?_
            refine ⟨_, rfl, (by show 1 ≤ sizeLine; decide), fun p hp => ?_⟩
            generalize hX : upd _ p _ = H7
            obtain ⟨s7, h7⟩ := fresh hp hX
            obtain ⟨kvs', D, F'⟩ := fol_put (n := [e]) (s7 _ _ hf6) (F6.keep (Keep.of s7)) hdn h7 (by omega)
            exact ⟨_, rfl, _, rfl, f, _, rfl, D, _, rfl, bh, dn ++ [[e]], kvs', _, _, _, _, _, rfl, (sm6.trans (SameBut.of s7)).upd, upd_same, F', by simp only [List.length_append, List.length_cons, List.length_nil]; simp only [cnt] at hbh; omega, hat2, by rw [hnext, List.append_assoc]; rfl⟩
          | tell n =>
            refine iteDF (fun q => absurd (V.str.inj q) (by show ¬ (("tell" : Str) = "back"); decide +kernel)) ?_
            have hw : ws = [] := pw
            subst hw
            refine ⟨_, rfl, g, _, rfl, .inr (SqT.of hg6), rfl, _, rfl, iteDT rfl ?_⟩
            refine ⟨_, rfl, (by show 1 ≤ sizeLine; decide), fun p hp => ?_⟩
            generalize hX : upd _ p _ = H7
            obtain ⟨s7, h7⟩ := fresh hp hX
            obtain ⟨kvs', D, F'⟩ := fol_put (n := [th]) (s7 _ _ hf6) (F6.keep (Keep.of s7)) hdn h7 (by omega)
            exact ⟨_, rfl, _, rfl, f, _, rfl, D, _, rfl, bh, dn ++ [[th]], kvs', _, _, _, _, _, rfl, (sm6.trans (SameBut.of s7)).upd, upd_same, F', by simp only [List.length_append, List.length_cons, List.length_nil]; simp only [cnt] at hbh; omega, hat2, by rw [hnext, List.append_assoc]; rfl⟩
          | whl c ta =>
            refine iteDF (fun q => absurd (V.str.inj q) (by show ¬ (("while" : Str) = "back"); decide +kernel)) ?_
            obtain ⟨pa, va, r1, e1, hpa, oa, e2⟩ := pw6
            have e2' : r1 = [] := e2
            subst e2'
            subst e1
            simp only [dep] at hdt
            simp only [cnt] at hbh hct
            refine ⟨_, rfl, g, _, rfl, .inr (SqT.of hg6), rfl, _, rfl, iteDF (by show ¬ V.int 1 = V.int 0; decide +kernel) ?_⟩
            refine ⟨_, rfl, g, _, rfl, .inr (SqT.of hg6), rfl, _, rfl, iteDT rfl ?_⟩
            refine ⟨_, rfl, g, _, _, _, rfl, rfl, SqT.of hg6, atI_nat (j := 0) rfl, _, rfl, _, _, rfl, rfl, _, rfl, pa, va, ta, at_ + 1, at_, rfl, hpa, oa.len, _, rfl, (by show 2 ≤ sizeLine; decide), fun p hp => ?_⟩
            generalize hX : upd _ p _ = H7
            obtain ⟨s7, h7⟩ := fresh hp hX
            obtain ⟨kvs', D, F'⟩ := fol_put (n := [bg ta (at_ + 1) at_, th]) (s7 _ _ hf6) (F6.keep (Keep.of s7)) hdn h7 (by omega)
            refine ⟨_, rfl, _, rfl, f, _, rfl, D, ?_⟩
            have sm8 : SameBut f H6 (upd H7 f (.dK kvs')) := (SameBut.of s7).upd
            have k8 := Keep.but sm8 hf6
            refine ⟨_, rfl, g, _, _, _, rfl, rfl, SqT.of (k8 _ _ hg6 trivial), atI_nat (j := 0) rfl, _, rfl, _, _, rfl, rfl, _, rfl, _, rfl, _, rfl, pa, f, va, ta, at_ + 1, at_, e, dn ++ [[bg ta (at_ + 1) at_, th]], kvs', rfl, k8 _ _ hpa trivial, oa.keep k8, by omega, by omega, upd_same, F', by simp [hdn], fun H9 kvs9 s9 h9 F9 => ?_⟩
            exact ⟨_, rfl, bh, _, kvs9, _, _, _, _, _, rfl, (sm6.trans sm8).trans s9, h9, F9, by simp only [List.length_append, List.length_cons, List.length_nil, fol_len]; omega, hat2, by rw [hnext, ← List.append_assoc]; simp only [folR, List.append_assoc, List.cons_append, List.nil_append]⟩
          | ife c ta tb =>
            refine iteDF (fun q => absurd (V.str.inj q) (by show ¬ (("if" : Str) = "back"); decide +kernel)) ?_
            obtain ⟨pa, va, r1, e1, hpa, oa, pb, vb, r2, e2, hpb, ob, e3⟩ := pw6
            have e3' : r2 = [] := e3
            subst e3'
            subst e2
            subst e1
            simp only [dep] at hdt
            simp only [cnt] at hbh hct
            refine ⟨_, rfl, g, _, rfl, .inr (SqT.of hg6), rfl, _, rfl, iteDF (by show ¬ V.int 2 = V.int 0; decide +kernel) ?_⟩
            refine ⟨_, rfl, g, _, rfl, .inr (SqT.of hg6), rfl, _, rfl, iteDF (by show ¬ V.int 2 = V.int 1; decide +kernel) ?_⟩
            -- other = at + 1 + count_of(inner[0])
            refine ⟨_, rfl, _, _, rfl, rfl, _, rfl, g, _, _, _, rfl, rfl, SqT.of hg6, atI_nat (j := 0) rfl, pa, va, ta, rfl, hpa, oa, by omega, fun H7 s7 => ?_⟩
            refine ⟨_, _, rfl, rfl, ?_⟩
            dsimp only
            obtain ⟨ot, hot⟩ : ∃ ot, ot = at_ + 1 + cnts ta := ⟨_, rfl⟩
            rw [show (at_ : Int) + 1 + (cnts ta : Int) = (ot : Int) by omega]
            have k7 := Keep.of s7
            have hg7 := s7 _ _ hg6
            have hpa7 := s7 _ _ hpa
            have hpb7 := s7 _ _ hpb
            refine ⟨_, rfl, g, _, _, _, rfl, rfl, SqT.of hg7, atI_nat (j := 0) rfl, _, rfl, _, _, rfl, rfl, _, rfl, pa, va, ta, at_ + 1, th, rfl, hpa7, oa.len, ?_⟩
            refine ⟨_, rfl, g, _, _, _, rfl, rfl, SqT.of hg7, atI_nat (j := 1) rfl, _, rfl, _, rfl, pb, vb, tb, ot, th, rfl, hpb7, ob.len, (by show 2 ≤ sizeLine; decide), fun p hp => ?_⟩
            generalize hX : upd _ p _ = H8
            obtain ⟨s8, h8⟩ := fresh hp hX
            obtain ⟨kvs', D, F'⟩ := fol_put (n := [bg ta (at_ + 1) th, bg tb ot th]) (s8 _ _ (s7 _ _ hf6)) ((F6.keep k7).keep (Keep.of s8)) hdn h8 (by omega)
            refine ⟨_, rfl, _, rfl, f, _, rfl, D, ?_⟩
            have sm8 : SameBut f H6 (upd H8 f (.dK kvs')) := (SameBut.of (s7.trans s8)).upd
            have k8 := Keep.but sm8 hf6
            refine ⟨_, rfl, g, _, _, _, rfl, rfl, SqT.of (k8 _ _ hg6 trivial), atI_nat (j := 0) rfl, _, rfl, _, _, rfl, rfl, _, rfl, _, rfl, _, rfl, pa, f, va, ta, at_ + 1, th, e, dn ++ [[bg ta (at_ + 1) th, bg tb ot th]], kvs', rfl, k8 _ _ hpa trivial, oa.keep k8, by omega, by omega, upd_same, F', by simp [hdn], fun H9 kvs9 s9 h9 F9 => ?_⟩
            have sm9 := sm8.trans s9
            have k9 := Keep.but sm9 hf6
            refine ⟨_, rfl, g, _, _, _, rfl, rfl, SqT.of (k9 _ _ hg6 trivial), atI_nat (j := 1) rfl, _, rfl, _, rfl, _, rfl, _, rfl, pb, f, vb, tb, ot, th, e, _, kvs9, rfl, k9 _ _ hpb trivial, ob.keep k9, by omega, by omega, h9, F9, by simp only [List.length_append, List.length_cons, List.length_nil, fol_len]; omega, fun H10 kvs10 s10 h10 F10 => ?_⟩
            exact ⟨_, rfl, bh, _, kvs10, _, _, _, _, _, rfl, (sm6.trans sm9).trans s10, h10, F10, by simp only [List.length_append, List.length_cons, List.length_nil, fol_len]; omega, hat2, by rw [hnext, ← List.append_assoc]; simp only [folR, hot, List.append_assoc, List.cons_append, List.nil_append]⟩
        · refine ⟨_, rfl, _, rfl, a, _, rfl, .inr (SqT.of ha5), _, _, rfl, rfl, rfl, _, rfl, iteDF (fun q => hlast (by have := V.int.inj q; rw [os.len] at this; omega)) ?_⟩
          rw [if_neg hlast] at hnext
          refine told_alt (d := d) (v := x) (fun R h => ⟨_, rfl, _, rfl, a, _, _, _, rfl, rfl, SqT.of ha5, atI_nat hx, h⟩) o5 (by omega) (by omega) fun H6 g6 w6 s6 _ h6 => ?_
          have k6 := Keep.of s6
          have hg6 := s6 _ _ hg5
          have pw6 := pw5.keep k6
          have hf6 := s6 _ _ hf5
          have F6 := F5.keep k6
          have sm6 : SameBut f H H6 := sm5.trans (SameBut.of s6)
          refine ⟨g6, _, _, _, rfl, rfl, SqT.of h6, atI_nat (j := 0) rfl, rfl, _, rfl, ?_⟩
          cases t with
          | back =>
            refine iteDT rfl ?_
            refine ⟨_, rfl, (by show 1 ≤ sizeLine; decide), fun p hp => ?_⟩
            generalize hX : upd _ p _ = H7
            obtain ⟨s7, h7⟩ := fresh hp hX
            obtain ⟨kvs', D, F'⟩ := fol_put (n := [e]) (s7 _ _ hf6) (F6.keep (Keep.of s7)) hdn h7 (by omega)
            exact ⟨_, rfl, _, rfl, f, _, rfl, D, _, rfl, bh, dn ++ [[e]], kvs', _, _, _, _, _, rfl, (sm6.trans (SameBut.of s7)).upd, upd_same, F', by simp only [List.length_append, List.length_cons, List.length_nil]; simp only [cnt] at hbh; omega, hat2, by rw [hnext, List.append_assoc]; rfl⟩
          | tell n =>
            refine iteDF (fun q => absurd (V.str.inj q) (by show ¬ (("tell" : Str) = "back"); decide +kernel)) ?_
            have hw : ws = [] := pw
            subst hw
            refine ⟨_, rfl, g, _, rfl, .inr (SqT.of hg6), rfl, _, rfl, iteDT rfl ?_⟩
            refine ⟨_, rfl, (by show 1 ≤ sizeLine; decide), fun p hp => ?_⟩
            generalize hX : upd _ p _ = H7
            obtain ⟨s7, h7⟩ := fresh hp hX
            obtain ⟨kvs', D, F'⟩ := fol_put (n := [bh]) (s7 _ _ hf6) (F6.keep (Keep.of s7)) hdn h7 (by omega)
            exact ⟨_, rfl, _, rfl, f, _, rfl, D, _, rfl, bh, dn ++ [[bh]], kvs', _, _, _, _, _, rfl, (sm6.trans (SameBut.of s7)).upd, upd_same, F', by simp only [List.length_append, List.length_cons, List.length_nil]; simp only [cnt] at hbh; omega, hat2, by rw [hnext, List.append_assoc]; rfl⟩
          | whl c ta =>
            refine iteDF (fun q => absurd (V.str.inj q) (by show ¬ (("while" : Str) = "back"); decide +kernel)) ?_
            obtain ⟨pa, va, r1, e1, hpa, oa, e2⟩ := pw6
            have e2' : r1 = [] := e2
            subst e2'
            subst e1
            simp only [dep] at hdt
            simp only [cnt] at hbh hct
            refine ⟨_, rfl, g, _, rfl, .inr (SqT.of hg6), rfl, _, rfl, iteDF (by show ¬ V.int 1 = V.int 0; decide +kernel) ?_⟩
            refine ⟨_, rfl, g, _, rfl, .inr (SqT.of hg6), rfl, _, rfl, iteDT rfl ?_⟩
            refine ⟨_, rfl, g, _, _, _, rfl, rfl, SqT.of hg6, atI_nat (j := 0) rfl, _, rfl, _, _, rfl, rfl, _, rfl, pa, va, ta, at_ + 1, at_, rfl, hpa, oa.len, _, rfl, (by show 2 ≤ sizeLine; decide), fun p hp => ?_⟩
            generalize hX : upd _ p _ = H7
            obtain ⟨s7, h7⟩ := fresh hp hX
            obtain ⟨kvs', D, F'⟩ := fol_put (n := [bg ta (at_ + 1) at_, bh]) (s7 _ _ hf6) (F6.keep (Keep.of s7)) hdn h7 (by omega)
            refine ⟨_, rfl, _, rfl, f, _, rfl, D, ?_⟩
            have sm8 : SameBut f H6 (upd H7 f (.dK kvs')) := (SameBut.of s7).upd
            have k8 := Keep.but sm8 hf6
            refine ⟨_, rfl, g, _, _, _, rfl, rfl, SqT.of (k8 _ _ hg6 trivial), atI_nat (j := 0) rfl, _, rfl, _, _, rfl, rfl, _, rfl, _, rfl, _, rfl, pa, f, va, ta, at_ + 1, at_, e, dn ++ [[bg ta (at_ + 1) at_, bh]], kvs', rfl, k8 _ _ hpa trivial, oa.keep k8, by omega, by omega, upd_same, F', by simp [hdn], fun H9 kvs9 s9 h9 F9 => ?_⟩
            exact ⟨_, rfl, bh, _, kvs9, _, _, _, _, _, rfl, (sm6.trans sm8).trans s9, h9, F9, by simp only [List.length_append, List.length_cons, List.length_nil, fol_len]; omega, hat2, by rw [hnext, ← List.append_assoc]; simp only [folR, List.append_assoc, List.cons_append, List.nil_append]⟩
          | ife c ta tb =>
            refine iteDF (fun q => absurd (V.str.inj q) (by show ¬ (("if" : Str) = "back"); decide +kernel)) ?_
            obtain ⟨pa, va, r1, e1, hpa, oa, pb, vb, r2, e2, hpb, ob, e3⟩ := pw6
            have e3' : r2 = [] := e3
            subst e3'
            subst e2
            subst e1
            simp only [dep] at hdt
            simp only [cnt] at hbh hct
            refine ⟨_, rfl, g, _, rfl, .inr (SqT.of hg6), rfl, _, rfl, iteDF (by show ¬ V.int 2 = V.int 0; decide +kernel) ?_⟩
            refine ⟨_, rfl, g, _, rfl, .inr (SqT.of hg6), rfl, _, rfl, iteDF (by show ¬ V.int 2 = V.int 1; decide +kernel) ?_⟩
            -- other = at + 1 + count_of(inner[0])
            refine ⟨_, rfl, _, _, rfl, rfl, _, rfl, g, _, _, _, rfl, rfl, SqT.of hg6, atI_nat (j := 0) rfl, pa, va, ta, rfl, hpa, oa, by omega, fun H7 s7 => ?_⟩
            refine ⟨_, _, rfl, rfl, ?_⟩
            dsimp only
            obtain ⟨ot, hot⟩ : ∃ ot, ot = at_ + 1 + cnts ta := ⟨_, rfl⟩
            rw [show (at_ : Int) + 1 + (cnts ta : Int) = (ot : Int) by omega]
            have k7 := Keep.of s7
            have hg7 := s7 _ _ hg6
            have hpa7 := s7 _ _ hpa
            have hpb7 := s7 _ _ hpb
            refine ⟨_, rfl, g, _, _, _, rfl, rfl, SqT.of hg7, atI_nat (j := 0) rfl, _, rfl, _, _, rfl, rfl, _, rfl, pa, va, ta, at_ + 1, bh, rfl, hpa7, oa.len, ?_⟩
            refine ⟨_, rfl, g, _, _, _, rfl, rfl, SqT.of hg7, atI_nat (j := 1) rfl, _, rfl, _, rfl, pb, vb, tb, ot, bh, rfl, hpb7, ob.len, (by show 2 ≤ sizeLine; decide), fun p hp => ?_⟩
            generalize hX : upd _ p _ = H8
            obtain ⟨s8, h8⟩ := fresh hp hX
            obtain ⟨kvs', D, F'⟩ := fol_put (n := [bg ta (at_ + 1) bh, bg tb ot bh]) (s8 _ _ (s7 _ _ hf6)) ((F6.keep k7).keep (Keep.of s8)) hdn h8 (by omega)
            refine ⟨_, rfl, _, rfl, f, _, rfl, D, ?_⟩
            have sm8 : SameBut f H6 (upd H8 f (.dK kvs')) := (SameBut.of (s7.trans s8)).upd
            have k8 := Keep.but sm8 hf6
            refine ⟨_, rfl, g, _, _, _, rfl, rfl, SqT.of (k8 _ _ hg6 trivial), atI_nat (j := 0) rfl, _, rfl, _, _, rfl, rfl, _, rfl, _, rfl, _, rfl, pa, f, va, ta, at_ + 1, bh, e, dn ++ [[bg ta (at_ + 1) bh, bg tb ot bh]], kvs', rfl, k8 _ _ hpa trivial, oa.keep k8, by omega, by omega, upd_same, F', by simp [hdn], fun H9 kvs9 s9 h9 F9 => ?_⟩
            have sm9 := sm8.trans s9
            have k9 := Keep.but sm9 hf6
            refine ⟨_, rfl, g, _, _, _, rfl, rfl, SqT.of (k9 _ _ hg6 trivial), atI_nat (j := 1) rfl, _, rfl, _, rfl, _, rfl, _, rfl, pb, f, vb, tb, ot, bh, e, _, kvs9, rfl, k9 _ _ hpb trivial, ob.keep k9, by omega, by omega, h9, F9, by simp only [List.length_append, List.length_cons, List.length_nil, fol_len]; omega, fun H10 kvs10 s10 h10 F10 => ?_⟩
            exact ⟨_, rfl, bh, _, kvs10, _, _, _, _, _, rfl, (sm6.trans sm9).trans s10, h10, F10, by simp only [List.length_append, List.length_cons, List.length_nil, fol_len]; omega, hat2, by rw [hnext, ← List.append_assoc]; simp only [folR, hot, List.append_assoc, List.cons_append, List.nil_append]⟩
      · rintro σ H2 ⟨at_, dn, kvs2, v6, v7, v8, v9, v10, rfl, sm, hf2, F2, hdn, hat, hfol⟩
        refine q H2 kvs2 sm hf2 ?_
        rw [hfol, List.drop_length]
        simpa [fol] using F2
/-! followers_of -/
def spFols (T : Tx K mg) (d : Nat) : Sp := fun vs H Q _ => ∃ (v : V) (ts : List Tr), vs = [v] ∧ HelperAt T H ts v ∧ deps ts < d ∧ cnts ts ≤ 1000 ∧
  ∀ (H' : Hp) (q : Addr) (ws : List V), Same H H' → H q = none → H' q = some (.tup ws) → TupsAt H' (folOf ts) ws → Q (.ref q) H'
theorem ok_followers_of (T : Tx K mg) (d : Nat) : FnOk P w K mg base CX0 (2 * d + 4) T.f_followers_of T.d_followers_of ["helper"] (spFols T d) := by
  refine T.F_followers_of.ok sc_followers_of (fun vs H Q E h => ?_) (fun cdv A outer s H vs Q E hr h => ?_)
  · obtain ⟨v, ts, rfl, _⟩ := h
    rfl
  · obtain ⟨v, ts, rfl, hh, hd, hc, q⟩ := h
    have hu := hu_of hr
    obtain ⟨p, dx, pr, xs, n, pp, g, rfl, hp, hpr, os⟩ := id hh
    refine ⟨_, (pss_cons (ps_set (i := 1) sc_followers_of.nd rfl (Or.inr rfl) pe_dnewK)
      (pss_cons (ps_set (i := 2) sc_followers_of.nd rfl (Or.inl rfl) (pe_call (ok_count_of T d) (hr.mono (by omega)) rfl T.m_count_of T.F_count_of.kp T.B_count_of .nil pass0 (pa_cons (fldK (K := K) rfl (pv 0) rfl) pa_nil)))
      (pss_cons (ps_expr (pe_call (ok_link T d) (hr.mono (by omega)) rfl T.m_link T.F_link.kp T.B_link .nil pass0 (pa_cons (fldK (K := K) rfl (pv 0) rfl) (pa_cons pe_int (pa_cons (pv 2) (pa_cons (pv 2) (pa_cons (pv 1) pa_nil)))))))
      (pss_one (ps_ret (pe_callTy (tuple_ofK (K := K) rfl) (by rfl) T.n_tuple PyProof.Rows.boot_tuple (pa_cons (pe_lc (own := [("at", 3)]) (g := gName 3) (tt := tYes) rfl sc_followers_of.nd (pi_range1 rfl T.n_range (pa_cons (pv 2) pa_nil)) (blkOk_by (own := [("at", 3)]) (N := ["helper", "found", "end", "at"]) (sc := defScope s_followers_of) (by decide +kernel)) (fun _ _ _ _ _ => pg_name (i := 3) sc_followers_of.nd rfl (Or.inl rfl)) (fun _ _ _ _ _ => pts_nil) (fun _ _ _ _ _ => (pe_dget hu (pv 1) (pv 3) (fun _ _ => rfl)))) pa_nil))))))), ?_⟩
    intro f hf
    generalize hX : upd _ f _ = H1
    obtain ⟨s1, f1⟩ := fresh hf hX
    refine ⟨_, rfl, p, _, dx, _, _, rfl, s1 _ _ hp, T.cl_Helper, T.na_Helper_rows, helper_rows _ _ _ _, pr, xs, ts, rfl, s1 _ _ hpr, os.keep (Keep.of s1), hd, fun H2 s2 => ?_⟩
    have s12 := s1.trans s2
    refine ⟨_, rfl, p, _, dx, _, _, rfl, s12 _ _ hp, T.cl_Helper, T.na_Helper_rows, helper_rows _ _ _ _, _, rfl, _, rfl, _, rfl, pr, f, xs, ts, 0, cnts ts, cnts ts, [], [], rfl, s12 _ _ hpr, os.keep (Keep.of s12), hd, by omega, s2 _ _ f1, rfl, rfl, fun H3 kvs sb f3 F => ?_⟩
    have s3 : Same H H3 := fun b o e => sb b o (s12 b o e) (ne_of_none e hf)
    have F' : FolAt H3 0 (folOf ts) kvs := by simpa [folOf] using F
    have hlen := folOf_len ts
    refine ⟨_, rfl, _, rfl, by omega, by omega, fun D hD => ?_⟩
    rw [Int.toNat_natCast]
    refine lc_range (lo := 0) (n := cnts ts) (fun i H4 => ∃ acc : List V, Same H3 H4 ∧ H4 D = some (.lst acc) ∧ TupsAt H4 ((folOf ts).take i) acc) ⟨[], same_upd hD, upd_same, by simp [TupsAt]⟩ ?_ ?_
    · rintro i H4 hi ⟨acc, s4, hacc, ht⟩
      obtain ⟨fl, hfl⟩ : ∃ fl, (folOf ts)[i]? = some fl := ⟨_, List.getElem?_eq_getElem (by omega)⟩
      obtain ⟨pf, e1, e2⟩ := (F'.keep (Keep.of s4)).get hfl
      rw [Nat.zero_add] at e1
      have hal := ht.len
      rw [List.length_take] at hal
      have hi0 : (0 : Int) + (i : Int) = i := Int.zero_add _
      rw [hi0]
      have k4 : Keep H4 (upd H4 D (.lst (acc ++ [.ref pf]))) := Keep.butL (f := D) (fun b u e n => by rw [upd_ne n]; exact e) hacc
      refine ⟨rfl, yes ⟨_, rfl, _, rfl, f, _, rfl, e1 ▸ DGet.k (k := Sum.inl (i : Int)) (s4 _ _ f3), acc, hacc, small1000 (by omega), acc ++ [.ref pf], same_updT s4 hD, upd_same, ?_⟩⟩
      rw [List.take_add_one, hfl]
      exact TupsAt.snoc (k4 _ _ e2 trivial) (ht.keep k4)
    · rintro H4 ⟨acc, s4, hacc, ht⟩
      rw [← hlen, List.take_length] at ht
      exact ⟨D, acc, rfl, .inl ⟨SqL.of hacc, fun l hl => q _ _ _ ((s3.trans s4).trans (same_upd hl)) ((s3.trans s4).free hl) upd_same (ht.keep (Keep.of (same_upd hl)))⟩⟩
end
/-! ### the law's own rows -/
section
variable {P : Program} {w : World} {K : PySem.W.Frag} {mg : Str → Option Value} {base : Heap}
/-- the parts of a row as it tells itself -/
def TPartsAt (H : Hp) : List (List Tr) → List V → Prop
  | [], ws => ws = []
  | ts :: ps, ws => ∃ p xs r, ws = .ref p :: r ∧ H p = some (.tup xs) ∧ TellsAt H ts xs ∧ TPartsAt H ps r
theorem TPartsAt.len {H : Hp} : ∀ {ps : List (List Tr)} {ws : List V}, TPartsAt H ps ws → ws.length = ps.length
  | [], _, h => by
    subst h
    rfl
  | _ :: _, _, ⟨p, xs, r, e, _, _, h2⟩ => by
    subst e
    simp [TPartsAt.len h2]
theorem TPartsAt.keep {H H' : Hp} (k : Keep H H') : ∀ {ps : List (List Tr)} {ws : List V}, TPartsAt H ps ws → TPartsAt H' ps ws
  | [], _, h => h
  | _ :: _, _, ⟨p, xs, r, e, h1, h2, h3⟩ => ⟨p, xs, r, e, k _ _ h1 trivial, h2.keep k, TPartsAt.keep k h3⟩
theorem TPartsAt.get {H : Hp} : ∀ {ps : List (List Tr)} {ws : List V} {i : Nat} {v : V}, TPartsAt H ps ws → ws[i]? = some v → ∃ ts p xs, ps[i]? = some ts ∧ v = .ref p ∧ H p = some (.tup xs) ∧ TellsAt H ts xs
  | [], _, _, _, h, q => by
    subst h
    simp at q
  | ts :: _, _, 0, _, ⟨p, xs, r, e, h1, h2, _⟩, q => by
    subst e
    simp at q
    exact ⟨ts, p, xs, rfl, q.symm, h1, h2⟩
  | _ :: _, _, i + 1, _, ⟨p, xs, r, e, _, _, h3⟩, q => by
    subst e
    obtain ⟨ts, p', xs', q1, q2⟩ := TPartsAt.get (i := i) h3 (by simpa using q)
    exact ⟨ts, p', xs', by simpa using q1, q2⟩
/-- a row as it tells itself: its word first, its parts from the third on -/
theorem TellAt.open {H : Hp} {t : Tr} {v : V} (h : TellAt H t v) : ∃ p xs, v = .ref p ∧ H p = some (.tup (.str (kindOf t) :: xs)) ∧ TPartsAt H (parts t) ((V.str (kindOf t) :: xs).drop 2) := by
  cases t with
  | tell n =>
    obtain ⟨p, e, h1⟩ := h
    exact ⟨p, _, e, h1, rfl⟩
  | back =>
    obtain ⟨p, e, h1⟩ := h
    exact ⟨p, _, e, h1, rfl⟩
  | ife c a b =>
    obtain ⟨p, pa, pb, va, vb, e, h1, h2, h3, h4, h5⟩ := h
    exact ⟨p, _, e, h1, pa, va, _, rfl, h2, h4, pb, vb, _, rfl, h3, h5, rfl⟩
  | whl c a =>
    obtain ⟨p, pa, va, e, h1, h2, h4⟩ := h
    exact ⟨p, _, e, h1, pa, va, _, rfl, h2, h4, rfl⟩
def sizeB : Nat → Nat
  | 0 => 1
  | d + 1 => 1 + 6 * sizeB d
theorem sizeB_pos (d : Nat) : 1 ≤ sizeB d := by
  cases d <;> simp [sizeB]
def spTree (D : Nat) : Sp := fun vs H Q _ => ∃ (c : Int) (d m : Nat), vs = [.int c, .int (d : Int), .int (m : Int)] ∧ d < D ∧ m ≤ 7 ∧
  ∀ (H' : Hp) (q : Addr) (ws : List V) (ts : List Tr), Same H H' → H q = none → H' q = some (.tup ws) → TellsAt H' ts ws → deps ts ≤ d → cnts ts ≤ m * sizeB d → Q (.ref q) H'
theorem deps_snoc (ts : List Tr) (t : Tr) : deps (ts ++ [t]) = max (deps ts) (dep t) := by
  induction ts with
  | nil => simp [deps]
  | cons a ts ih =>
    simp only [List.cons_append, deps, ih]
    omega
theorem cnts_snoc (ts : List Tr) (t : Tr) : cnts (ts ++ [t]) = cnts ts + cnt t := by
  rw [cnts_append, cnts_one]
theorem small7 {n m d : Nat} (h : n ≤ m * sizeB d) (hm : m ≤ 7) (hd : d ≤ 4) : n < sizeLine := by
  have h1 : sizeB d ≤ 1555 := by
    match d, hd with
    | 0, _ => decide
    | 1, _ => decide
    | 2, _ => decide
    | 3, _ => decide
    | 4, _ => decide
  have h2 : m * sizeB d ≤ 7 * 1555 := Nat.mul_le_mul hm h1
  have h3 : sizeLine = 16777216 := sizeLine_eq
  omega
theorem ok_l_tree (T : Tx K mg) : ∀ D : Nat, D ≤ 5 → FnOk P w K mg base CX0 (D + 2) T.f_l_tree T.d_l_tree ["_law_cell_here", "_law_deep", "_law_many"] (spTree D)
  | 0, _ => T.F_l_tree.ok sc_l_tree (fun vs H Q E ⟨c, d, m, _, h, _⟩ => absurd h (Nat.not_lt_zero _)) (fun cdv A outer s H vs Q E hr ⟨c, d, m, _, h, _⟩ => absurd h (Nat.not_lt_zero _))
  | D + 1, hD5 => by
    have ih := ok_l_tree T D (by omega)
    refine T.F_l_tree.ok sc_l_tree (fun vs H Q E h => ?_) (fun cdv A outer s H vs Q E hr h => ?_)
    · obtain ⟨c, d, m, rfl, _⟩ := h
      rfl
    · obtain ⟨c, d, m, rfl, hd, hm, q⟩ := h
      have hdD : d ≤ 4 := by omega
      have hsp := sizeB_pos d
      refine ⟨_, (pss_cons (ps_set (i := 3) sc_l_tree.nd rfl (Or.inl rfl) (pe_lst pa_nil))
      (pss_cons (ps_for PassesOwn.never rfl (pi_range1 rfl T.n_range (pa_cons (pv 2) pa_nil)) (pg_name (i := 4) sc_l_tree.nd rfl (Or.inl rfl))
        (pss_cons (ps_asg (pe_callB call_divmod (by rfl) T.n_divmod PyProof.Rows.boot_divmod (pa_cons (pe_call (ok_l_mixed T) (hr.mono (by omega)) rfl T.m_l_mixed T.F_l_mixed.kp T.B_l_mixed .nil pass0 (pa_cons (pv 0) (pa_cons (pv 4) pa_nil))) (pa_cons pe_int pa_nil))) (pg_tup rfl (pgs_cons (pg_name (i := 5) sc_l_tree.nd rfl (Or.inl rfl)) (pgs_cons (pg_name (i := 6) sc_l_tree.nd rfl (Or.inl rfl)) pgs_nil))))
        (pss_one (ps_if (PW.pt (pw_or (pt_cmpR op_lt (pv 6) pe_int (nomark _)) (pw_or1 (pt_cmpR op_eq (pv 1) pe_int (nomark _)))))
          (pss_one (ps_expr (pe_bm PySem.F.plainAttrs_list PySem.F.slot_list_append PySem.F.type_list_append mt_append (pv 3) (pa_cons (pe_ix (ix_listK (K := K) rfl) (pe_lst (pa_cons (pe_tup (pa_cons pe_str (pa_cons (pe_op op_mod (pv 5) pe_int) pa_nil))) (pa_cons (pe_tup (pa_cons pe_str (pa_cons pe_int pa_nil))) pa_nil))) (pe_callTy call_int1 (by rfl) T.n_int PyProof.Rows.boot_int (pa_cons (pe_cmpR op_eq (pe_op op_mod (pv 5) pe_int) pe_int (nomark _)) pa_nil)) (fun _ _ => rfl)) pa_nil))))
          (pss_one (ps_if (pt_cmpR op_lt (pv 6) pe_int (nomark _))
            (pss_cons (ps_set (i := 7) sc_l_tree.nd rfl (Or.inl rfl) (pe_call ih (hr.mono (by omega)) rfl T.m_l_tree T.F_l_tree.kp T.B_l_tree .nil pass0 (pa_cons (pv 5) (pa_cons (pe_op op_sub (pv 1) pe_int) (pa_cons (pe_op op_mod (pv 5) pe_int) pa_nil)))))
            (pss_one (ps_expr (pe_bm PySem.F.plainAttrs_list PySem.F.slot_list_append PySem.F.type_list_append mt_append (pv 3) (pa_cons (pe_tup (pa_cons pe_str (pa_cons (pe_op op_mod (pe_op op_fdiv (pv 5) pe_int) pe_int) (pa_cons (pv 7) (pa_cons (pe_call ih (hr.mono (by omega)) rfl T.m_l_tree T.F_l_tree.kp T.B_l_tree .nil pass0 (pa_cons (pe_op op_add (pv 5) pe_int) (pa_cons (pe_op op_sub (pv 1) pe_int) (pa_cons (pe_op op_mod (pe_op op_fdiv (pv 5) pe_int) pe_int) pa_nil)))) pa_nil))))) pa_nil)))))
            (pss_one (ps_expr (pe_bm PySem.F.plainAttrs_list PySem.F.slot_list_append PySem.F.type_list_append mt_append (pv 3) (pa_cons (pe_tup (pa_cons pe_str (pa_cons (pe_op op_mod (pe_op op_fdiv (pv 5) pe_int) pe_int) (pa_cons (pe_call ih (hr.mono (by omega)) rfl T.m_l_tree T.F_l_tree.kp T.B_l_tree .nil pass0 (pa_cons (pe_op op_add (pv 5) pe_int) (pa_cons (pe_op op_sub (pv 1) pe_int) (pa_cons (pe_op op_mod (pv 5) pe_int) pa_nil)))) pa_nil)))) pa_nil))))))))))
      (pss_one (ps_ret (pe_callTy (tuple_ofK (K := K) rfl) (by rfl) T.n_tuple PyProof.Rows.boot_tuple (pa_cons (pv 3) pa_nil)))))), ?_⟩
      refine ⟨Nat.zero_le _, fun l hl => ?_⟩
      refine ⟨_, rfl, _, rfl, by omega, by omega, ?_⟩
      rw [Int.toNat_natCast]
      refine for_range (lo := 0) (n := m) (fun i σ H2 => ∃ (acc : List V) (ts : List Tr) (v4 v5 v6 v7 : Option V), σ = [some (.int c), some (.int (d : Int)), some (.int (m : Int)), some (.ref l), v4, v5, v6, v7] ∧ Same H H2 ∧ H2 l = some (.lst acc) ∧ TellsAt H2 ts acc ∧ ts.length = i ∧ deps ts ≤ d ∧ cnts ts ≤ i * sizeB d)
        ⟨[], [], none, none, none, none, rfl, same_upd hl, upd_same, rfl, rfl, Nat.zero_le _, Nat.zero_le _⟩ ?_ ?_
      · rintro i σ H2 hi ⟨acc, ts, v4, v5, v6, v7, rfl, sm, hL, hts, htl, hdts, hcts⟩
        have hi0 : (0 : Int) + (i : Int) = i := Int.zero_add _
        rw [hi0]
        have him : ts.length ≤ m * sizeB d := by
          have := sizeB_pos d
          have h1 : i * 1 ≤ m * sizeB d := Nat.mul_le_mul (by omega) this
          omega
        refine ⟨_, rfl, _, rfl, c, i, rfl, ?_⟩
        have hx0 := mixF_nn c i
        generalize mixF c i = x at hx0
        refine ⟨_, _, rfl, ⟨by decide, by decide⟩, fun pt hpt => ?_⟩
        generalize hX : upd _ pt _ = H3
        obtain ⟨s3, a3⟩ := fresh hpt hX
        clear hX
        have hL3 := s3 _ _ hL
        have sm3 := sm.trans s3
        have hts3 := hts.keep (Keep.of s3)
        refine ⟨pt, _, rfl, SqT.of a3, rfl, _, _, rfl, _, _, rfl, rfl, ?_⟩
        refine ⟨_, rfl, _, _, rfl, rfl, _, rfl, ?_⟩
        have hlen : ts.length < sizeLine := small7 him hm hdD
        by_cases h3 : x % 7 < 3
        · refine iteDT h3 (iteT ?_)
          refine ⟨_, rfl, .inl ⟨rfl, _, SqL.of hL3⟩, _, rfl, _, _, rfl, rfl, (by show (0 : Int) < 9; decide), (by show 2 ≤ sizeLine; decide), fun p1 hp1 => ?_⟩
          generalize hX : upd _ p1 _ = H4
          obtain ⟨s4, a1⟩ := fresh hp1 hX
          clear hX
          refine ⟨(by show 2 ≤ sizeLine; decide), fun p2 hp2 => ?_⟩
          generalize hX : upd _ p2 _ = H5
          obtain ⟨s5, a2⟩ := fresh hp2 hX
          clear hX
          refine ⟨(by show 2 ≤ sizeLine; decide), fun g hg => ?_⟩
          generalize hX : upd _ g _ = H6
          obtain ⟨s6, ag⟩ := fresh hg hX
          clear hX
          have s36 := s4.trans (s5.trans s6)
          obtain ⟨tl, pl, hat, hpl, hdl, hcl⟩ : ∃ (tl : Tr) (pl : Addr), atI [V.ref p1, V.ref p2] (if decide (V.int (x / 7 % 8) = V.int 7) = true then 1 else 0) = some (.ref pl) ∧ TellAt H6 tl (.ref pl) ∧ dep tl = 0 ∧ cnt tl = 1 := by
            by_cases h8 : V.int (x / 7 % 8) = V.int 7
            · rw [decide_eq_true h8]
              exact ⟨.back, p2, rfl, ⟨p2, rfl, s6 _ _ a2⟩, rfl, rfl⟩
            · rw [decide_eq_false h8]
              exact ⟨.tell (x / 7 % 9), p1, rfl, ⟨p1, rfl, s6 _ _ (s5 _ _ a1)⟩, rfl, rfl⟩
          refine ⟨_, rfl, _, _, rfl, rfl, (by show (0 : Int) < 8; decide), rfl, .inr ⟨_, rfl, g, _, _, _, rfl, rfl, SqL.of ag, hat, l, _, _, rfl, rfl, s36 _ _ hL3, ?_, ?_⟩⟩
          · have := hts.len
            have := len_cnts ts
            exact small7 (by omega) hm hdD
          · have k6 := Keep.of s36
            have k7 : Keep H6 (upd H6 l (.lst (acc ++ [.ref pl]))) := Keep.butL (f := l) (fun b u e n => by rw [upd_ne n]; exact e) (s36 _ _ hL3)
            exact ⟨acc ++ [.ref pl], ts ++ [tl], _, _, _, _, rfl, same_updT (sm3.trans s36) hl, upd_same, TellsAt.snoc (hpl.keep k7) ((hts3.keep k6).keep k7), by rw [List.length_append, htl]; rfl, by rw [deps_snoc, hdl]; omega, by rw [cnts_snoc, hcl, Nat.add_mul]; omega⟩
        · refine iteDF h3 ?_
          by_cases h0 : d = 0
          · subst h0
            refine ⟨_, rfl, rfl, _, rfl, iteDT rfl ?_⟩
            refine ⟨_, rfl, .inl ⟨rfl, _, SqL.of hL3⟩, _, rfl, _, _, rfl, rfl, (by show (0 : Int) < 9; decide), (by show 2 ≤ sizeLine; decide), fun p1 hp1 => ?_⟩
            generalize hX : upd _ p1 _ = H4
            obtain ⟨s4, a1⟩ := fresh hp1 hX
            clear hX
            refine ⟨(by show 2 ≤ sizeLine; decide), fun p2 hp2 => ?_⟩
            generalize hX : upd _ p2 _ = H5
            obtain ⟨s5, a2⟩ := fresh hp2 hX
            clear hX
            refine ⟨(by show 2 ≤ sizeLine; decide), fun g hg => ?_⟩
            generalize hX : upd _ g _ = H6
            obtain ⟨s6, ag⟩ := fresh hg hX
            clear hX
            have s36 := s4.trans (s5.trans s6)
            obtain ⟨tl, pl, hat, hpl, hdl, hcl⟩ : ∃ (tl : Tr) (pl : Addr), atI [V.ref p1, V.ref p2] (if decide (V.int (x / 7 % 8) = V.int 7) = true then 1 else 0) = some (.ref pl) ∧ TellAt H6 tl (.ref pl) ∧ dep tl = 0 ∧ cnt tl = 1 := by
              by_cases h8 : V.int (x / 7 % 8) = V.int 7
              · rw [decide_eq_true h8]
                exact ⟨.back, p2, rfl, ⟨p2, rfl, s6 _ _ a2⟩, rfl, rfl⟩
              · rw [decide_eq_false h8]
                exact ⟨.tell (x / 7 % 9), p1, rfl, ⟨p1, rfl, s6 _ _ (s5 _ _ a1)⟩, rfl, rfl⟩
            refine ⟨_, rfl, _, _, rfl, rfl, (by show (0 : Int) < 8; decide), rfl, .inr ⟨_, rfl, g, _, _, _, rfl, rfl, SqL.of ag, hat, l, _, _, rfl, rfl, s36 _ _ hL3, ?_, ?_⟩⟩
            · have := hts.len
              have := len_cnts ts
              exact small7 (by omega) hm hdD
            · have k6 := Keep.of s36
              have k7 : Keep H6 (upd H6 l (.lst (acc ++ [.ref pl]))) := Keep.butL (f := l) (fun b u e n => by rw [upd_ne n]; exact e) (s36 _ _ hL3)
              exact ⟨acc ++ [.ref pl], ts ++ [tl], _, _, _, _, rfl, same_updT (sm3.trans s36) hl, upd_same, TellsAt.snoc (hpl.keep k7) ((hts3.keep k6).keep k7), by rw [List.length_append, htl]; rfl, by rw [deps_snoc, hdl]; omega, by rw [cnts_snoc, hcl, Nat.add_mul]; omega⟩
          · obtain ⟨d', rfl⟩ : ∃ d', d = d' + 1 := ⟨d - 1, by omega⟩
            refine ⟨_, rfl, rfl, _, rfl, iteDF (fun e => by have := V.int.inj e; omega) ?_⟩
            have hr0 : 0 ≤ x / 7 := by omega
            refine ⟨_, rfl, _, _, rfl, rfl, _, rfl, ?_⟩
            have hm4 : ∀ z : Int, 0 ≤ z % 4 ∧ (z % 4).toNat ≤ 3 ∧ z % 4 = ((z % 4).toNat : Int) := fun z => by
              have := Int.emod_nonneg z (by decide : (4 : Int) ≠ 0)
              have := Int.emod_lt_of_pos z (by decide : (0 : Int) < 4)
              omega
            have hd1 : ((d' + 1 : Nat) : Int) - 1 = (d' : Int) := by omega
            have hB : sizeB (d' + 1) = 1 + 6 * sizeB d' := rfl
            by_cases h5 : x % 7 < 5
            · refine iteDT h5 ?_
              -- _law_inner
              refine ⟨_, rfl, _, rfl, _, _, rfl, rfl, _, rfl, _, _, rfl, rfl, (by show (0 : Int) < 4; decide), x / 7, d', (x / 7 % 4).toNat, ?_, by omega, by have := hm4 (x / 7); omega, fun H4 q1 w1 t1 s4 n1 h1 ta1 hd1' hc1 => ?_⟩
              · show [V.int (x / 7), V.int (((d' + 1 : Nat) : Int) - 1), V.int (x / 7 % 4)] = _
                rw [hd1, (hm4 (x / 7)).2.2]
                simp
              have hL4 := s4 _ _ hL3
              refine ⟨_, rfl, .inl ⟨rfl, _, SqL.of hL4⟩, _, rfl, _, _, rfl, rfl, ⟨by decide, by decide⟩, _, _, rfl, rfl, (by show (0 : Int) < 2; decide), _, rfl, _, rfl, _, _, rfl, rfl, _, rfl, _, _, rfl, rfl, _, rfl, _, _, rfl, rfl, ⟨by decide, by decide⟩, _, _, rfl, rfl, (by show (0 : Int) < 4; decide), x / 7 + 1, d', (x / 7 / 8 % 4).toNat, ?_, by omega, by have := hm4 (x / 7 / 8); omega, fun H5 q2 w2 t2 s5 n2 h2 ta2 hd2 hc2 => ?_⟩
              · show [V.int (x / 7 + 1), V.int (((d' + 1 : Nat) : Int) - 1), V.int (x / 7 / 8 % 4)] = _
                rw [hd1, (hm4 (x / 7 / 8)).2.2]
                simp
              refine ⟨(by show 4 ≤ sizeLine; decide), fun p hp => ?_⟩
              generalize hX : upd _ p _ = H6
              obtain ⟨s6, a6⟩ := fresh hp hX
              clear hX
              have s36 := s4.trans (s5.trans s6)
              refine ⟨l, _, _, rfl, rfl, s36 _ _ hL3, ?_, ?_⟩
              · have := hts.len
                omega
              · have k7 : Keep H6 (upd H6 l (.lst (acc ++ [.ref p]))) := Keep.butL (f := l) (fun b u e n => by rw [upd_ne n]; exact e) (s36 _ _ hL3)
                have hnode : TellAt H6 (.ife (x / 7 / 4 % 2) t1 t2) (.ref p) := ⟨p, q1, q2, w1, w2, rfl, a6, s6 _ _ (s5 _ _ h1), s6 _ _ h2, (ta1.keep (Keep.of s5)).keep (Keep.of s6), ta2.keep (Keep.of s6)⟩
                have b1 : cnts t1 ≤ 3 * sizeB d' := Nat.le_trans hc1 (Nat.mul_le_mul_right _ (hm4 (x / 7)).2.1)
                have b2 : cnts t2 ≤ 3 * sizeB d' := Nat.le_trans hc2 (Nat.mul_le_mul_right _ (hm4 (x / 7 / 8)).2.1)
                exact ⟨acc ++ [.ref p], ts ++ [.ife (x / 7 / 4 % 2) t1 t2], _, _, _, _, rfl, same_updT (sm3.trans s36) hl, upd_same, TellsAt.snoc (hnode.keep k7) ((hts3.keep (Keep.of s36)).keep k7), by rw [List.length_append, htl]; rfl, by rw [deps_snoc]; simp only [dep]; omega, by rw [cnts_snoc, Nat.add_mul]; simp only [cnt]; omega⟩
            · refine iteDF h5 ?_
              refine ⟨_, rfl, .inl ⟨rfl, _, SqL.of hL3⟩, _, rfl, _, _, rfl, rfl, ⟨by decide, by decide⟩, _, _, rfl, rfl, (by show (0 : Int) < 2; decide), _, rfl, _, _, rfl, rfl, _, rfl, _, _, rfl, rfl, _, rfl, _, _, rfl, rfl, (by show (0 : Int) < 4; decide), x / 7 + 2, d', (x / 7 % 4).toNat, ?_, by omega, by have := hm4 (x / 7); omega, fun H5 q1 w1 t1 s5 n1 h1 ta1 hd1' hc1 => ?_⟩
              · show [V.int (x / 7 + 2), V.int (((d' + 1 : Nat) : Int) - 1), V.int (x / 7 % 4)] = _
                rw [hd1, (hm4 (x / 7)).2.2]
                simp
              refine ⟨(by show 3 ≤ sizeLine; decide), fun p hp => ?_⟩
              generalize hX : upd _ p _ = H6
              obtain ⟨s6, a6⟩ := fresh hp hX
              clear hX
              have s36 := s5.trans s6
              refine ⟨l, _, _, rfl, rfl, s36 _ _ hL3, ?_, ?_⟩
              · have := hts.len
                omega
              · have k7 : Keep H6 (upd H6 l (.lst (acc ++ [.ref p]))) := Keep.butL (f := l) (fun b u e n => by rw [upd_ne n]; exact e) (s36 _ _ hL3)
                have hnode : TellAt H6 (.whl (x / 7 / 4 % 2) t1) (.ref p) := ⟨p, q1, w1, rfl, a6, s6 _ _ h1, ta1.keep (Keep.of s6)⟩
                have b1 : cnts t1 ≤ 3 * sizeB d' := Nat.le_trans hc1 (Nat.mul_le_mul_right _ (hm4 (x / 7)).2.1)
                exact ⟨acc ++ [.ref p], ts ++ [.whl (x / 7 / 4 % 2) t1], _, _, _, _, rfl, same_updT (sm3.trans s36) hl, upd_same, TellsAt.snoc (hnode.keep k7) ((hts3.keep (Keep.of s36)).keep k7), by rw [List.length_append, htl]; rfl, by rw [deps_snoc]; simp only [dep]; omega, by rw [cnts_snoc, Nat.add_mul]; simp only [cnt]; omega⟩
      · rintro σ H2 ⟨acc, ts, v4, v5, v6, v7, rfl, sm, hL, hts, htl, hdts, hcts⟩
        exact ⟨_, rfl, l, acc, rfl, .inl ⟨SqL.of hL, fun p hp => q _ _ _ ts (same_updT sm (sm.free hp)) (sm.free hp) upd_same (hts.keep (Keep.of (same_upd hp))) hdts hcts⟩⟩
/-! _law_flat -/
def spFlat (D : Nat) : Sp := fun vs H Q _ => ∃ (a : Addr) (xs : List V) (ts : List Tr), vs = [.ref a] ∧ H a = some (.tup xs) ∧ TellsAt H ts xs ∧ deps ts < D ∧ cnts ts ≤ 20000 ∧
  ∀ (H' : Hp) (q : Addr) (ws : List V), Same H H' → H q = none → H' q = some (.lst ws) → ws.length = cnts ts → Q (.ref q) H'
theorem sumc_take {ps : List (List Tr)} {j : Nat} {p : List Tr} (h : ps[j]? = some p) : sumc (ps.take (j + 1)) = sumc (ps.take j) + cnts p := by
  rw [List.take_add_one, h]
  generalize ps.take j = l
  induction l with
  | nil => simp [sumc]
  | cons a l ih =>
    simp only [List.cons_append, sumc, ih]
    omega
theorem sumc_le {ps : List (List Tr)} {j : Nat} : sumc (ps.take j) ≤ sumc ps := by
  induction ps generalizing j with
  | nil => simp
  | cons a ps ih =>
    cases j with
    | zero => simp [sumc]
    | succ j =>
      have := ih (j := j)
      simp only [List.take_succ_cons, sumc]
      omega
theorem ok_l_flat (T : Tx K mg) : ∀ D : Nat, FnOk P w K mg base CX0 (D + 1) T.f_l_flat T.d_l_flat ["_law_rows"] (spFlat D)
  | 0 => T.F_l_flat.ok sc_l_flat (fun vs H Q E ⟨a, xs, ts, _, _, _, h, _⟩ => absurd h (Nat.not_lt_zero _)) (fun cdv A outer s H vs Q E hr ⟨a, xs, ts, _, _, _, h, _⟩ => absurd h (Nat.not_lt_zero _))
  | D + 1 => by
    have ih := ok_l_flat T D
    refine T.F_l_flat.ok sc_l_flat (fun vs H Q E h => ?_) (fun cdv A outer s H vs Q E hr h => ?_)
    · obtain ⟨a, xs, ts, rfl, _⟩ := h
      rfl
    · obtain ⟨a, xs, ts, rfl, ha, hts, hd, hc, q⟩ := h
      have hline : sizeLine = 16777216 := sizeLine_eq
      refine ⟨_, (pss_cons (ps_set (i := 1) sc_l_flat.nd rfl (Or.inl rfl) (pe_lst pa_nil))
      (pss_cons (ps_for PassesOwn.never rfl (pi_tupK (K := K) rfl (pv 0)) (pg_name (i := 2) sc_l_flat.nd rfl (Or.inl rfl))
        (pss_cons (ps_expr (pe_bm PySem.F.plainAttrs_list PySem.F.slot_list_append PySem.F.type_list_append mt_append (pv 1) (pa_cons (pv 2) pa_nil)))
        (pss_one (ps_for PassesOwn.never rfl (pi_tupK (K := K) rfl (pe_slice (sl_tupAK (K := K) rfl) (pv 2) (po_some pe_int) po_none)) (pg_name (i := 3) sc_l_flat.nd rfl (Or.inl rfl))
          (pss_one (ps_set (i := 1) sc_l_flat.nd rfl (Or.inl rfl) (pe_op op_cat (pv 1) (pe_call ih (hr.mono (by omega)) rfl T.m_l_flat T.F_l_flat.kp T.B_l_flat .nil pass0 (pa_cons (pv 3) pa_nil)))))))))
      (pss_one (ps_ret (pv 1))))), ?_⟩
      refine ⟨Nat.zero_le _, fun l0 hl0 => ?_⟩
      refine ⟨_, rfl, a, rfl, ⟨_, SqT.of (same_upd hl0 _ _ ha)⟩, for_tup (K := K) (a := a) (xs := xs) (fun i σ H2 => ∃ (l : Addr) (ws : List V) (v2 v3 : Option V), σ = [some (.ref a), some (.ref l), v2, v3] ∧ Same H H2 ∧ H l = none ∧ H2 l = some (.lst ws) ∧ ws.length = cnts (ts.take i))
        ⟨l0, [], none, none, rfl, same_upd hl0, hl0, upd_same, by simp [cnts]⟩ (fun i σ H2 _ ⟨_, _, _, _, _, s, _⟩ => SqT.of (s _ _ ha)) ?_ ?_⟩
      · rintro i x σ H2 hx ⟨l, ws, v2, v3, rfl, sm, hl, hL, hw⟩
        obtain ⟨t, ht⟩ := vget hts.len hx
        obtain ⟨x', hx', o⟩ := hts.get ht
        have e : x' = x := by
          rw [hx] at hx'
          exact (Option.some.inj hx').symm
        subst e
        have hm := List.mem_of_getElem? ht
        have hdt := deps_mem hm
        have hct := cnt_parts t
        have hsplit := cnts_split ts (i + 1)
        rw [cnts_take ht] at hsplit
        obtain ⟨p, ys, rfl, hp, hpp⟩ := o.open
        refine ⟨_, rfl, .inl ⟨rfl, _, SqL.of hL⟩, _, rfl, l, _, _, rfl, rfl, hL, by omega, ?_⟩
        have s1 : Same H (upd H2 l (.lst (ws ++ [.ref p]))) := same_updT sm hl
        have hL1 : (upd H2 l (.lst (ws ++ [.ref p]))) l = some (.lst (ws ++ [.ref p])) := upd_same
        generalize upd H2 l (.lst (ws ++ [.ref p])) = H3 at s1 hL1
        refine ⟨_, rfl, _, rfl, noPart (slT (s1 _ _ hp) (show cutV (V.str (kindOf t) :: ys) (some (2 : Int)) none = (V.str (kindOf t) :: ys).drop 2 from cut_lo _ 2) fun H4 b s4 hb => ?_)⟩
        have s14 := s1.trans s4
        have hpp4 := hpp.keep (Keep.of s14)
        refine ⟨b, rfl, ⟨_, SqT.of hb⟩, for_tup (K := K) (a := b) (xs := (V.str (kindOf t) :: ys).drop 2) (fun j σ H5 => ∃ (l : Addr) (ws : List V) (v3 : Option V), σ = [some (.ref a), some (.ref l), some (.ref p), v3] ∧ Same H H5 ∧ H5 b = some (.tup ((V.str (kindOf t) :: ys).drop 2)) ∧ H l = none ∧ H5 l = some (.lst ws) ∧ ws.length = cnts (ts.take i) + 1 + sumc ((parts t).take j))
          ⟨l, _, v3, rfl, s14, hb, hl, s4 _ _ hL1, by simp [sumc, hw]⟩ (fun j σ H5 _ ⟨_, _, _, _, _, hb, _⟩ => SqT.of hb) ?_ ?_⟩
        · rintro j y σ H5 hy ⟨l, ws, v3, rfl, s5, hb5, hl, hL5, hw5⟩
          obtain ⟨pt, pp, px, hp1, rfl, hp2, po⟩ := hpp.get hy
          have hdp := dep_parts (List.mem_of_getElem? hp1)
          have hst := sumc_take hp1
          have hsl := sumc_le (ps := parts t) (j := j + 1)
          refine ⟨_, rfl, _, rfl, pp, px, pt, rfl, s5 _ _ hp2, po.keep (Keep.of s5), by omega, by omega, fun H6 q1 w1 s6 n1 h1 hw1 => ?_⟩
          refine ⟨l, q1, _, _, rfl, rfl, s6 _ _ hL5, h1, by omega, fun r hr' => ?_⟩
          exact ⟨r, ws ++ w1, _, rfl, (s5.trans s6).trans (same_upd hr'), (same_upd hr') _ _ (s6 _ _ hb5), (s5.trans s6).free hr', upd_same, by rw [List.length_append, hw5, hw1, hst]; omega⟩
        · rintro σ H5 ⟨l, ws, v3, rfl, s5, hb5, hl, hL5, hw5⟩
          refine ⟨l, ws, _, _, rfl, s5, hl, hL5, ?_⟩
          rw [hw5, hpp.len, List.take_length, cnts_take ht, hct]
          omega
      · rintro σ H2 ⟨l, ws, v2, v3, rfl, sm, hl, hL, hw⟩
        rw [hts.len, List.take_length] at hw
        exact ⟨_, rfl, q _ _ _ sm hl hL hw⟩
/-! _law_walk -/
def spWalk (K : PySem.W.Frag) : Sp := fun vs H Q _ => ∃ (a : Addr) (ns : List Int), vs = [.ref a] ∧ SqL K H a (ns.map V.int) ∧
  ∀ (H' : Hp) (q : Addr) (ws : List V) (ts : List Tr), Same H H' → H' q = some (.tup ws) → TellsAt H' ts ws → deps ts ≤ 4 → cnts ts ≤ 60 → Q (.ref q) H'
theorem cut_init (xs : List V) (h : xs ≠ []) : cutV xs none (some (-1)) = xs.take (xs.length - 1) := by
  unfold cutV
  rw [HT.sIx_none, List.drop_zero, Nat.sub_zero]
  have : HT.sIx xs.length xs.length (some (-1)) = xs.length - 1 := by
    unfold HT.sIx
    have := List.length_pos_iff.mpr h
    simp only
    rw [if_pos (by decide)]
    omega
  rw [this]
theorem ok_l_walk (T : Tx K mg) : FnOk P w K mg base CX0 8 T.f_l_walk T.d_l_walk ["_law_script"] (spWalk K) := by
  refine T.F_l_walk.ok sc_l_walk (fun vs H Q E h => ?_) (fun cdv A outer s H vs Q E hr h => ?_)
  · obtain ⟨a, ns, rfl, _⟩ := h
    rfl
  · obtain ⟨a, ns, rfl, hS, q⟩ := h
    refine ⟨_, (pss_cons (ps_set (i := 1) sc_l_walk.nd rfl (Or.inl rfl) (pe_call (ok_l_tree T 5 (by decide)) (hr.mono (by omega)) rfl T.m_l_tree T.F_l_tree.kp T.B_l_tree .nil pass0 (pa_cons (pe_call (ok_l_cell T) (hr.mono (by omega)) rfl T.m_l_cell T.F_l_cell.kp T.B_l_cell .nil pass0 (pa_cons (pv 0) (pa_cons pe_int pa_nil))) (pa_cons (pe_op op_add pe_int (pe_op op_mod (pe_call (ok_l_cell T) (hr.mono (by omega)) rfl T.m_l_cell T.F_l_cell.kp T.B_l_cell .nil pass0 (pa_cons (pv 0) (pa_cons pe_int pa_nil))) pe_int)) (pa_cons (pe_op op_mod (pe_op op_fdiv (pe_call (ok_l_cell T) (hr.mono (by omega)) rfl T.m_l_cell T.F_l_cell.kp T.B_l_cell .nil pass0 (pa_cons (pv 0) (pa_cons pe_int pa_nil))) pe_int) pe_int) pa_nil)))))
      (pss_cons (ps_while PassesOwn.never (pt_cmpR op_gt (pe_callB (len_seqK (K := K) rfl) (by rfl) T.n_len PySem.boot_len (pa_cons (pe_call (ok_l_flat T 5) (hr.mono (by omega)) rfl T.m_l_flat T.F_l_flat.kp T.B_l_flat .nil pass0 (pa_cons (pv 1) pa_nil)) pa_nil)) pe_int (nomark _))
        (pss_one (ps_set (i := 1) sc_l_walk.nd rfl (Or.inl rfl) (pe_slice (sl_tupAK (K := K) rfl) (pv 1) po_none (po_some (pe_un un_neg pe_int))))))
      (pss_one (ps_ret (pv 1))))), ?_⟩
    have h4 := Int.emod_nonneg (cellF ns 1) (by decide : (4 : Int) ≠ 0)
    have h4' := Int.emod_lt_of_pos (cellF ns 1) (by decide : (0 : Int) < 4)
    have h8 := Int.emod_nonneg (cellF ns 1 / 4) (by decide : (8 : Int) ≠ 0)
    have h8' := Int.emod_lt_of_pos (cellF ns 1 / 4) (by decide : (0 : Int) < 8)
    refine ⟨_, rfl, a, ns, 0, rfl, hS, _, rfl, a, ns, 1, rfl, hS, _, _, rfl, rfl, (by show (0 : Int) < 4; decide), _, _, rfl, rfl, _, rfl, a, ns, 1, rfl, hS, _, _, rfl, rfl, ⟨by decide, by decide⟩, _, _, rfl, rfl, (by show (0 : Int) < 8; decide), cellF ns 0, (1 + cellF ns 1 % 4).toNat, (cellF ns 1 / 4 % 8).toNat, ?_, by omega, by omega, fun H1 q1 w1 t1 s1 n1 h1 ta1 hd1 hc1 => ?_⟩
    · show [V.int (cellF ns 0), V.int (1 + cellF ns 1 % 4), V.int (cellF ns 1 / 4 % 8)] = _
      rw [Int.toNat_of_nonneg h8, Int.toNat_of_nonneg (by omega)]
    have hb : cnts t1 ≤ 20000 := by
      have e1 : sizeB (1 + cellF ns 1 % 4).toNat ≤ 1555 := by
        match (1 + cellF ns 1 % 4).toNat, (show (1 + cellF ns 1 % 4).toNat ≤ 4 by omega) with
        | 0, _ => decide
        | 1, _ => decide
        | 2, _ => decide
        | 3, _ => decide
        | 4, _ => decide
      have e2 : (cellF ns 1 / 4 % 8).toNat * sizeB (1 + cellF ns 1 % 4).toNat ≤ 7 * 1555 := Nat.mul_le_mul (by omega) e1
      omega
    refine ⟨fun m σ H2 => ∃ (p : Addr) (ws : List V) (ts : List Tr), m = ts.length ∧ σ = [some (.ref a), some (.ref p)] ∧ Same H H2 ∧ H2 p = some (.tup ws) ∧ TellsAt H2 ts ws ∧ deps ts ≤ 4 ∧ cnts ts ≤ 20000, ⟨_, q1, w1, t1, rfl, rfl, s1, h1, ta1, by omega, hb⟩, ?_⟩
    rintro m σ H2 ⟨p, ws, ts, rfl, rfl, sm, hp, hts, hd, hc⟩
    refine ⟨_, rfl, p, ws, ts, rfl, hp, hts, by omega, hc, fun H3 g gs s3 ng hg hgl => ?_⟩
    refine ⟨g, _, rfl, .inl (SqL.of hg), _, _, rfl, rfl, _, rfl, ?_⟩
    rw [hgl]
    by_cases h60 : 60 < cnts ts
    · refine iteDT (by omega) ⟨_, fun σ' H' w => w, ?_⟩
      have hne : ws ≠ [] := fun e => by
        have := hts.len
        rw [e] at this
        have e2 : ts = [] := List.eq_nil_of_length_eq_zero (by simpa using this.symm)
        rw [e2] at h60
        simp [cnts] at h60
      refine ⟨_, rfl, noPart ⟨_, rfl, _, rfl, slT (s3 _ _ hp) (cut_init ws hne) fun H4 b s4 hb4 => ?_⟩⟩
      have hl := hts.len
      have hpos := List.length_pos_iff.mpr hne
      have hsp := cnts_split ts (ws.length - 1)
      refine ⟨_, ?_, b, _, ts.take (ws.length - 1), rfl, rfl, sm.trans (s3.trans s4), hb4, ((hts.keep (Keep.of s3)).keep (Keep.of s4)).take _, Nat.le_trans deps_take hd, by omega⟩
      rw [List.length_take]
      omega
    · refine iteDF (by omega) ⟨_, rfl, ?_⟩
      exact q _ _ ws ts (sm.trans s3) (s3 _ _ hp) (hts.keep (Keep.of s3)) hd (by omega)
/-! _law_helper -/
def spHelper (T : Tx K mg) : Sp := fun vs H Q _ => ∃ (a : Addr) (xs : List V) (ts : List Tr), vs = [.ref a] ∧ H a = some (.tup xs) ∧ TellsAt H ts xs ∧ deps ts ≤ 4 ∧ cnts ts ≤ 1000 ∧
  ∀ (H' : Hp) (v : V), Same H H' → HelperAt T H' ts v → Q v H'
theorem ok_l_helper (T : Tx K mg) : FnOk P w K mg base CX0 22 T.f_l_helper T.d_l_helper ["_law_rows"] (spHelper T) := by
  refine T.F_l_helper.ok sc_l_helper (fun vs H Q E h => ?_) (fun cdv A outer s H vs Q E hr h => ?_)
  · obtain ⟨a, xs, ts, rfl, _⟩ := h
    rfl
  · obtain ⟨a, xs, ts, rfl, ha, hts, hd, hc, q⟩ := h
    have hlen := len_cnts ts
    refine ⟨_, (pss_one (ps_ret (pe_make T.Mk_Helper (ok_Helper_init T) (hr.mono (by omega)) rfl T.c_Helper T.B_Helper_init .nil pass0 (pa_cons pe_str (pa_cons (pe_tup pa_nil) (pa_cons pe_non (pa_cons (pe_callTy (tuple_ofK (K := K) rfl) (by rfl) T.n_tuple PyProof.Rows.boot_tuple (pa_cons (pe_lc (own := [("_law_row", 1)]) (g := gName 1) (tt := tYes) rfl sc_l_helper.nd (pi_tupK (K := K) rfl (pv 0)) (blkOk_by (own := [("_law_row", 1)]) (N := ["_law_rows", "_law_row"]) (sc := defScope s_l_helper) (by decide +kernel)) (fun _ _ _ _ _ => pg_name (i := 1) sc_l_helper.nd rfl (Or.inl rfl)) (fun _ _ _ _ _ => pts_nil) (fun _ _ _ _ _ => (pe_call (ok_row_of T 4) (hr.mono (by omega)) rfl T.m_row_of T.F_row_of.kp T.B_row_of .nil pass0 (pa_cons (pv 1) pa_nil)))) pa_nil)) pa_nil))))))), ?_⟩
    refine ⟨Nat.zero_le _, fun p0 hp0 => ?_⟩
    generalize hX : upd _ p0 _ = H1
    obtain ⟨s1, a0⟩ := fresh hp0 hX
    clear hX
    refine ⟨_, rfl, a, rfl, ⟨_, SqT.of (s1 _ _ ha)⟩, fun D hD => ?_⟩
    refine lc_tup (K := K) (a := a) (xs := xs) (fun i H' => ∃ acc : List V, Same H1 H' ∧ H' D = some (.lst acc) ∧ ObjsAt T H' (ts.take i) acc) ⟨[], same_upd hD, upd_same, by simp [ObjsAt]⟩ (fun i H' _ ⟨_, s, _⟩ => SqT.of (s _ _ (s1 _ _ ha))) ?_ ?_
    · rintro i x H' hx ⟨acc, s2, hacc, hl⟩
      obtain ⟨t, ht⟩ := vget hts.len hx
      obtain ⟨x', hx', o⟩ := hts.get ht
      have e : x' = x := by
        rw [hx] at hx'
        exact (Option.some.inj hx').symm
      subst e
      have hm := List.mem_of_getElem? ht
      have h1 := deps_mem hm
      have h2 := cnt_le_of_mem hm
      have hi := (List.getElem?_eq_some_iff.mp ht).1
      have hal := hl.len
      rw [List.length_take] at hal
      refine ⟨rfl, yes ⟨_, rfl, x', t, rfl, o.keep (Keep.of (s1.trans s2)), trivial, by omega, by omega, fun H3 v' s3 o3 => ?_⟩⟩
      have k4 : Keep H3 (upd H3 D (.lst (acc ++ [v']))) := Keep.butL (f := D) (fun b u e n => by rw [upd_ne n]; exact e) (s3 _ _ hacc)
      refine ⟨acc, s3 _ _ hacc, small1000 (by omega), acc ++ [v'], same_updT (s2.trans s3) hD, upd_same, ?_⟩
      rw [List.take_add_one, ht]
      exact ObjsAt.snoc (o3.keep k4) (hl.keep ((Keep.of s3).trans k4))
    · rintro H' ⟨acc, s2, hacc, hl⟩
      rw [hts.len, List.take_length] at hl
      refine ⟨D, acc, rfl, .inl ⟨SqL.of hacc, fun r hr2 => ?_⟩⟩
      generalize hX : upd _ r _ = H2
      obtain ⟨s3, ar⟩ := fresh hr2 hX
      clear hX
      intro x dx nx ndx nex
      have s4 := same_made (C := T.a_Helper) (fs := []) nx ndx
      refine ⟨x, dx, p0, r, _, _, [], acc, rfl, upd_same, s4 _ _ (s3 _ _ (s2 _ _ a0)), s4 _ _ ar, rfl, ?_⟩
      have s5 : Same H2 (upd (upd (upd H2 dx (.own x)) x (.ins T.a_Helper dx [])) x (.ins T.a_Helper dx (fsHelper (.str "walk") (.ref p0) .non (.ref r)))) := by
        rw [upd_upd]
        exact same_made nx ndx
      exact q _ _ (s1.trans (s2.trans (s3.trans s5))) ⟨x, dx, r, acc, _, _, _, rfl, upd_same, s5 _ _ ar, hl.keep (Keep.of (s3.trans s5))⟩
end
/-! ### ways -/
mutual
theorem folR_le (e : Nat) : ∀ (t : Tr) (k af : Nat), k + cnt t ≤ e → af ≤ e → ∀ f ∈ folR e t k af, ∀ x ∈ f, x ≤ e
  | .tell _, k, af, h, ha, f, hf, x, hx => by
    simp only [folR, List.mem_cons, List.not_mem_nil, or_false] at hf
    subst hf
    simp only [List.mem_cons, List.not_mem_nil, or_false] at hx
    omega
  | .back, k, af, h, ha, f, hf, x, hx => by
    simp only [folR, List.mem_cons, List.not_mem_nil, or_false] at hf
    subst hf
    simp only [List.mem_cons, List.not_mem_nil, or_false] at hx
    omega
  | .ife c a b, k, af, h, ha, f, hf, x, hx => by
    simp only [cnt] at h
    simp only [folR, List.mem_cons, List.mem_append] at hf
    rcases hf with hf | hf | hf
    · subst hf
      simp only [List.mem_cons, List.not_mem_nil, or_false] at hx
      have la := len_cnts a
      have lb := len_cnts b
      unfold bg at hx
      rcases hx with hx | hx
      · split at hx <;> omega
      · split at hx <;> omega
    · exact fol_le e a _ _ (by omega) ha f hf x hx
    · exact fol_le e b _ _ (by omega) ha f hf x hx
  | .whl c a, k, af, h, ha, f, hf, x, hx => by
    simp only [cnt] at h
    simp only [folR, List.mem_cons] at hf
    rcases hf with hf | hf
    · subst hf
      simp only [List.mem_cons, List.not_mem_nil, or_false] at hx
      unfold bg at hx
      rcases hx with hx | hx
      · split at hx <;> omega
      · omega
    · exact fol_le e a _ _ (by omega) (by omega) f hf x hx
theorem fol_le (e : Nat) : ∀ (ts : List Tr) (k th : Nat), k + cnts ts ≤ e → th ≤ e → ∀ f ∈ fol e ts k th, ∀ x ∈ f, x ≤ e
  | [], _, _, _, _, f, hf, _, _ => by simp [fol] at hf
  | t :: ts, k, th, h, ha, f, hf, x, hx => by
    simp only [cnts] at h
    simp only [fol, List.mem_append] at hf
    rcases hf with hf | hf
    · exact folR_le e t k _ (by omega) (by split <;> omega) f hf x hx
    · exact fol_le e ts _ _ (by omega) ha f hf x hx
end
theorem folOf_le {ts : List Tr} {f : List Nat} {x : Nat} (hf : f ∈ folOf ts) (hx : x ∈ f) : x ≤ cnts ts := fol_le _ ts 0 _ (by omega) (Nat.le_refl _) f hf x hx
/-- the followers of a point; of the end none -/
def nexts (fs : List (List Nat)) (k : Nat) : List Nat := (fs ++ [[]]).getD k []
def inZ (fs : List (List Nat)) (a b : Int) : Prop := ∃ j : Nat, b = (j : Int) ∧ j ∈ nexts fs a.toNat
structure WayI (fs : List (List Nat)) (zs : List Int) : Prop where
  rng : ∀ z ∈ zs, 0 ≤ z ∧ z ≤ (fs.length : Int)
  st : ∀ (j : Nat) (a b : Int), zs[j]? = some a → zs[j + 1]? = some b → inZ fs a b
theorem nexts_end {fs : List (List Nat)} {k : Nat} (h : fs.length ≤ k) : nexts fs k = [] := by
  unfold nexts
  by_cases e : k = fs.length
  · subst e
    rw [List.getD_eq_getElem?_getD, List.getElem?_append_right (Nat.le_refl _)]
    simp
  · rw [List.getD_eq_getElem?_getD, List.getElem?_append_right (by omega), List.getElem?_eq_none (by simp; omega)]
    rfl
theorem nexts_at {fs : List (List Nat)} {k : Nat} {f : List Nat} (h : fs[k]? = some f) : nexts fs k = f := by
  have := (List.getElem?_eq_some_iff.mp h).1
  unfold nexts
  rw [List.getD_eq_getElem?_getD, List.getElem?_append_left this, h]
  rfl
theorem in_vN (b : Int) (f : List Nat) : inV (.int b) (vN f) = true ↔ ∃ j : Nat, b = (j : Int) ∧ j ∈ f := by
  rw [vN_int, inInts, decide_eq_true_iff, List.mem_map]
  exact ⟨fun ⟨j, h, e⟩ => ⟨j, e.symm, h⟩, fun ⟨j, e, h⟩ => ⟨j, h, e.symm⟩⟩
section
variable {P : Program} {w : World} {K : PySem.W.Frag} {mg : Str → Option Value} {base : Heap}
/-- a loop over zip of two lists, the second not the longer -/
theorem zipGo {a b : Addr} {xs ys : List V} {g : TG} {tb : TS} {D : Ends} {σ : St} {H : Hp} (short : ys.length ≤ xs.length) (Pv : Nat → St → Hp → Prop) (begun : Pv 0 σ H) (lists : ∀ i σ H, Pv i σ H → SqL K H a xs ∧ SqL K H b ys)
    (turn : ∀ (i : Nat) (x y : V) (p : Addr) (σ : St) (H : Hp), xs[i]? = some x → ys[i]? = some y → Pv i σ H → H p = none → g (.ref p) σ (upd H p (.tup [x, y])) fun σ2 H2 => tb { D with nx := Pv (i + 1), ct := Pv (i + 1), bk := D.nx } σ2 H2)
    (done : ∀ σ H, Pv ys.length σ H → D.nx σ H) :
    ∃ W : Nat → Nat → St → Hp → Prop, (∃ m, W 0 m σ H) ∧ ∀ i m σ H, W i m σ H →
      ((Itz K a b).stop i H ∧ D.nx σ H) ∨ ((Itz K a b).go i H ∧ ∃ N : St → Hp → Prop, (∀ σ' H', N σ' H' → ∃ m', m' < m ∧ W (i + 1) m' σ' H') ∧ ∀ v H', (Itz K a b).yld i H v H' → g v σ H' fun σ2 H2 => tb { D with nx := N, ct := N, bk := D.nx } σ2 H2) := by
  refine ⟨fun i m σ H => m + i = ys.length ∧ Pv i σ H, ⟨ys.length, rfl, begun⟩, fun i m σ H ⟨hm, p⟩ => ?_⟩
  obtain ⟨q1, q2⟩ := lists i σ H p
  cases m with
  | zero =>
    have e : i = ys.length := by omega
    subst e
    exact .inl ⟨⟨xs, ys, q1, q2, .inr (Nat.le_refl _)⟩, done σ H p⟩
  | succ m =>
    have h2 : ys[i]? = some (ys[i]'(by omega)) := List.getElem?_eq_getElem (by omega)
    have h1 : xs[i]? = some (xs[i]'(by omega)) := List.getElem?_eq_getElem (by omega)
    refine .inr ⟨⟨xs, ys, _, _, q1, q2, h1, h2⟩, Pv (i + 1), fun σ' H' r => ⟨m, Nat.lt_succ_self m, by omega, r⟩, ?_⟩
    rintro v H' ⟨p', x, y, rfl, np, rfl, f1, f2⟩
    exact turn i x y p' σ H (f1 xs q1) (f2 ys q2) p np
theorem ints_get {zs : List Int} {i : Nat} {x : V} (h : (zs.map V.int)[i]? = some x) : ∃ z, zs[i]? = some z ∧ x = .int z := by
  rw [List.getElem?_map] at h
  cases e : zs[i]? with
  | none =>
    rw [e] at h
    cases h
  | some z =>
    rw [e] at h
    exact ⟨z, rfl, (Option.some.inj h).symm⟩
theorem ints_at' {zs : List Int} {i : Nat} {z : Int} (h : zs[i]? = some z) : (zs.map V.int)[i]? = some (.int z) := by
  rw [List.getElem?_map, h]
  rfl
def spIsWay (T : Tx K mg) : Sp := fun vs H Q _ => ∃ (v : V) (p : Addr) (ts : List Tr) (zs : List Int), vs = [v, .ref p] ∧ HelperAt T H ts v ∧ deps ts ≤ 4 ∧ cnts ts ≤ 1000 ∧ SqL K H p (zs.map V.int) ∧
  ∀ (H' : Hp) (b : Bool), Same H H' → (b = true ↔ WayI (folOf ts) zs) → Q (.bl b) H'
theorem ok_is_way (T : Tx K mg) : FnOk P w K mg base CX0 15 T.f_is_way T.d_is_way ["helper", "points"] (spIsWay T) := by
  refine T.F_is_way.ok sc_is_way (fun vs H Q E h => ?_) (fun cdv A outer s H vs Q E hr h => ?_)
  · obtain ⟨v, p, ts, zs, rfl, _⟩ := h
    rfl
  · obtain ⟨v, p, ts, zs, rfl, hh, hd, hc, hz, q⟩ := h
    have hfl := folOf_len ts
    refine ⟨_, (pss_cons (ps_set (i := 2) sc_is_way.nd rfl (Or.inl rfl) (pe_call (ok_followers_of T 5) (hr.mono (by omega)) rfl T.m_followers_of T.F_followers_of.kp T.B_followers_of .nil pass0 (pa_cons (pv 0) pa_nil)))
      (pss_cons (ps_set (i := 3) sc_is_way.nd rfl (Or.inl rfl) (pe_callB (len_seqK (K := K) rfl) (by rfl) T.n_len PySem.boot_len (pa_cons (pv 2) pa_nil)))
      (pss_cons (ps_for PassesOwn.never rfl (pi_listK (K := K) rfl (pv 1)) (pg_name (i := 4) sc_is_way.nd rfl (Or.inl rfl))
        (pss_one (ps_if (pt_not (pt_chain op_le op_le pe_int (pv 4) (pv 3)))
          (pss_one (ps_ret pe_bl))
          pss_nil)))
      (pss_cons (ps_for PassesOwn.never rfl (pi_zip (by rfl) T.n_zip (pa_cons (pv 1) (pa_cons (pe_slice (sl_listK (K := K) rfl) (pv 1) (po_some pe_int) po_none) pa_nil))) (pg_tup rfl (pgs_cons (pg_name (i := 5) sc_is_way.nd rfl (Or.inl rfl)) (pgs_cons (pg_name (i := 6) sc_is_way.nd rfl (Or.inl rfl)) pgs_nil)))
        (pss_one (ps_if (PW.pt (pw_or (pt_cmpR op_eq (pv 5) (pv 3) (nomark _)) (pw_or1 (pt_cmpR (notIn_seqK (K := K) rfl) (pv 6) (pe_ix (ix_tupK (K := K) rfl) (pv 2) (pv 5) (fun _ _ => rfl)) (by rfl)))))
          (pss_one (ps_ret pe_bl))
          pss_nil)))
      (pss_one (ps_ret pe_bl)))))), ?_⟩
    refine ⟨_, rfl, v, ts, rfl, hh, by omega, hc, fun H1 g gs s1 ng hg tg => ?_⟩
    have hgl := tg.len
    refine ⟨_, rfl, g, _, rfl, .inr (SqT.of hg), ?_⟩
    rw [hgl, hfl]
    refine ⟨_, rfl, p, rfl, ⟨_, s1.seq hz⟩, for_list (K := K) (a := p) (xs := zs.map V.int) (fun i σ H2 => ∃ v4 : Option V, σ = [some v, some (.ref p), some (.ref g), some (.int (cnts ts : Int)), v4, none, none] ∧ H2 = H1 ∧ ∀ (j : Nat) (z : Int), j < i → zs[j]? = some z → 0 ≤ z ∧ z ≤ (cnts ts : Int))
      ⟨none, rfl, rfl, fun j z h => absurd h (Nat.not_lt_zero _)⟩ (fun i σ H2 _ ⟨_, _, e, _⟩ => e ▸ s1.seq hz) ?_ ?_⟩
    · rintro i x σ H2 hx ⟨v4, rfl, rfl, hall⟩
      obtain ⟨z, hzi, rfl⟩ := ints_get hx
      refine ⟨_, rfl, _, _, rfl, rfl, _, rfl, ?_⟩
      have no : ¬ (0 ≤ z ∧ z ≤ (cnts ts : Int)) → Q (.bl false) H2 := fun h => q H2 false s1 ⟨fun e => (by cases e), fun W => by
        have := W.rng z (List.mem_of_getElem? hzi)
        rw [hfl] at this
        exact absurd this h⟩
      by_cases h0 : 0 ≤ z
      · refine iteDT h0 ?_
        refine ⟨_, rfl, _, _, rfl, rfl, _, rfl, ?_⟩
        by_cases h1 : z ≤ (cnts ts : Int)
        · refine iteBF (by rw [decide_eq_true h1]; rfl) ⟨_, rfl, rfl, fun j y hj hy => ?_⟩
          by_cases e : j < i
          · exact hall j y e hy
          · have e' : j = i := by omega
            subst e'
            rw [hzi] at hy
            cases hy
            exact ⟨h0, h1⟩
        · exact iteBT (by rw [decide_eq_false h1]; rfl) (no fun h => h1 h.2)
      · exact iteDF h0 ⟨_, rfl, iteBT rfl (no fun h => h0 h.1)⟩
    · rintro σ H2 ⟨v4, rfl, rfl, hall⟩
      rw [List.length_map] at hall
      have hrng : ∀ z ∈ zs, 0 ≤ z ∧ z ≤ ((folOf ts).length : Int) := fun z hz' => by
        obtain ⟨j, hj, e⟩ := List.mem_iff_getElem.mp hz'
        rw [hfl]
        exact hall j z hj (by rw [List.getElem?_eq_getElem hj, e])
      refine ⟨_, rfl, _, rfl, _, rfl, noPart ⟨p, _, rfl, s1.seq hz, fun c hcn => ?_⟩⟩
      have ecut : cutV (zs.map V.int) (some (1 : Int)) none = (zs.drop 1).map V.int := (cut_lo _ 1).trans List.map_drop.symm
      rw [ecut]
      generalize hX : upd _ c _ = H3
      obtain ⟨s3, ac⟩ := fresh hcn hX
      clear hX
      have hz3 := (s1.trans s3).seq hz
      refine ⟨p, c, _, _, rfl, hz3, SqL.of ac, ?_⟩
      refine zipGo (K := K) (a := p) (b := c) (xs := zs.map V.int) (ys := (zs.drop 1).map V.int) (by simp) (fun i σ H4 => ∃ v5 v6 : Option V, σ = [some v, some (.ref p), some (.ref g), some (.int (cnts ts : Int)), v4, v5, v6] ∧ Same H3 H4 ∧ ∀ (j : Nat) (a b : Int), j < i → zs[j]? = some a → zs[j + 1]? = some b → inZ (folOf ts) a b)
        ⟨none, none, rfl, Same.refl _, fun j a b h => absurd h (Nat.not_lt_zero _)⟩ (fun i σ H4 ⟨_, _, _, s4, _⟩ => ⟨s4.seq hz3, SqL.of (s4 _ _ ac)⟩) ?_ ?_
      · rintro i x y pr σ H4 hx hy ⟨v5, v6, rfl, s4, hall2⟩ npr
        obtain ⟨za, hza, rfl⟩ := ints_get hx
        obtain ⟨zb, hzb, rfl⟩ := ints_get hy
        rw [List.getElem?_drop, Nat.add_comm] at hzb
        have ra := hrng za (List.mem_of_getElem? hza)
        rw [hfl] at ra
        generalize hX : upd _ pr _ = H5
        obtain ⟨s5, apr⟩ := fresh npr hX
        clear hX
        have s35 := s4.trans s5
        have no : ¬ inZ (folOf ts) za zb → Q (.bl false) H5 := fun h => q H5 false (s1.trans (s3.trans s35)) ⟨fun e => (by cases e), fun W => absurd (W.st i za zb hza hzb) h⟩
        have stay : inZ (folOf ts) za zb → ∃ v5' v6' : Option V, [some v, some (V.ref p), some (.ref g), some (.int (cnts ts : Int)), v4, some (.int za), some (.int zb)] = [some v, some (V.ref p), some (.ref g), some (.int (cnts ts : Int)), v4, v5', v6'] ∧ Same H3 H5 ∧ ∀ (j : Nat) (a b : Int), j < i + 1 → zs[j]? = some a → zs[j + 1]? = some b → inZ (folOf ts) a b := fun h => ⟨_, _, rfl, s35, fun j a b hj h1 h2 => by
          by_cases e : j < i
          · exact hall2 j a b e h1 h2
          · have e' : j = i := by omega
            subst e'
            rw [hza] at h1
            rw [hzb] at h2
            cases h1
            cases h2
            exact h⟩
        refine ⟨pr, _, rfl, SqT.of apr, rfl, _, _, rfl, _, _, rfl, rfl, ?_⟩
        refine ⟨_, rfl, _, rfl, rfl, _, rfl, ?_⟩
        by_cases he : za = (cnts ts : Int)
        · refine iteDT (congrArg V.int he) (iteT (no ?_))
          rintro ⟨j, _, hj⟩
          rw [nexts_end (by omega)] at hj
          cases hj
        · refine iteDF (fun e => he (V.int.inj e)) ?_
          obtain ⟨k, hk⟩ : ∃ k : Nat, za = (k : Int) := ⟨za.toNat, by omega⟩
          subst hk
          obtain ⟨fl, hfl2⟩ : ∃ fl, (folOf ts)[k]? = some fl := ⟨_, List.getElem?_eq_getElem (by omega)⟩
          obtain ⟨pf, e1, e2⟩ := tg.get hfl2
          have s15 : Same H2 H5 := s3.trans s35
          refine ⟨_, rfl, _, rfl, _, rfl, g, _, _, _, rfl, rfl, SqT.of (s15 _ _ hg), atI_nat e1, pf, _, rfl, .inr (SqT.of (s15 _ _ e2)), rfl, flatN fl, _, rfl, ?_⟩
          have hin : inZ (folOf ts) (k : Int) zb ↔ inV (.int zb) (vN fl) = true := by
            rw [in_vN]
            unfold inZ
            rw [Int.toNat_natCast, nexts_at hfl2]
          by_cases hb : inV (.int zb) (vN fl) = true
          · exact iteBF (by rw [hb]; rfl) (stay (hin.mpr hb))
          · exact iteBT (by simp only [Bool.not_eq_true] at hb; rw [hb]; rfl) (no fun h => hb (hin.mp h))
      · rintro σ H4 ⟨v5, v6, rfl, s4, hall2⟩
        refine q H4 true (s1.trans (s3.trans s4)) ⟨fun _ => ⟨hrng, fun j a b h1 h2 => ?_⟩, fun _ => rfl⟩
        have hj := (List.getElem?_eq_some_iff.mp h2).1
        exact hall2 j a b (by rw [List.length_map, List.length_drop]; omega) h1 h2
end
/-! ### a search in rounds, for itself -/
section
variable {α : Type}
def Wk (nb : α → List α) (a : α) : Nat → α → Prop
  | 0, p => p = a
  | i + 1, p => ∃ q, Wk nb a i q ∧ p ∈ nb q
def AtD (nb : α → List α) (a : α) (i : Nat) (p : α) : Prop := Wk nb a i p ∧ ∀ j, j < i → ¬ Wk nb a j p
def NearD (nb : α → List α) (a : α) (i : Nat) (p : α) : Prop := ∃ j, j ≤ i ∧ Wk nb a j p
variable {nb : α → List α} {a : α}
theorem AtD.uniq {i j : Nat} {p : α} (h1 : AtD nb a i p) (h2 : AtD nb a j p) : i = j := by
  rcases Nat.lt_trichotomy i j with h | h | h
  · exact absurd h1.1 (h2.2 i h)
  · exact h
  · exact absurd h2.1 (h1.2 j h)
theorem AtD.zero {p : α} : AtD nb a 0 p ↔ p = a := ⟨fun h => h.1, fun h => ⟨h, fun j hj => absurd hj (Nat.not_lt_zero _)⟩⟩
theorem NearD.zero {p : α} : NearD nb a 0 p ↔ p = a := by
  constructor
  · rintro ⟨j, h1, h2⟩
    obtain rfl : j = 0 := by omega
    exact h2
  · exact fun h => ⟨0, Nat.le_refl _, h⟩
theorem AtD.near {i : Nat} {p : α} (h : AtD nb a i p) : NearD nb a i p := ⟨i, Nat.le_refl _, h.1⟩
theorem NearD.mono {i j : Nat} {p : α} (h : NearD nb a i p) (hij : i ≤ j) : NearD nb a j p := by
  obtain ⟨k, h1, h2⟩ := h
  exact ⟨k, by omega, h2⟩
theorem AtD.step {i : Nat} {p : α} : AtD nb a (i + 1) p ↔ (∃ q, AtD nb a i q ∧ p ∈ nb q) ∧ ¬ NearD nb a i p := by
  constructor
  · rintro ⟨⟨q, h1, h2⟩, h3⟩
    refine ⟨⟨q, ⟨h1, fun j hj hw => h3 (j + 1) (by omega) ⟨q, hw, h2⟩⟩, h2⟩, ?_⟩
    rintro ⟨j, hj, hw⟩
    exact h3 j (by omega) hw
  · rintro ⟨⟨q, h1, h2⟩, h3⟩
    exact ⟨⟨q, h1.1, h2⟩, fun j hj hw => h3 ⟨j, by omega, hw⟩⟩
theorem NearD.step {i : Nat} {p : α} : NearD nb a (i + 1) p ↔ NearD nb a i p ∨ AtD nb a (i + 1) p := by
  constructor
  · intro h
    by_cases hn : NearD nb a i p
    · exact .inl hn
    · obtain ⟨j, h1, h2⟩ := h
      have : j = i + 1 := by
        rcases Nat.lt_or_ge j (i + 1) with h | h
        · exact absurd ⟨j, by omega, h2⟩ hn
        · omega
      subst this
      exact .inr ⟨h2, fun k hk hw => hn ⟨k, by omega, hw⟩⟩
  · rintro (h | h)
    · exact h.mono (by omega)
    · exact h.near
theorem NearD.at : ∀ {i : Nat} {p : α}, NearD nb a i p → ∃ j, j ≤ i ∧ AtD nb a j p
  | 0, p, h => ⟨0, Nat.le_refl _, AtD.zero.mpr (NearD.zero.mp h)⟩
  | i + 1, p, h => by
    rcases NearD.step.mp h with h | h
    · obtain ⟨j, h1, h2⟩ := NearD.at h
      exact ⟨j, by omega, h2⟩
    · exact ⟨i + 1, Nat.le_refl _, h⟩
theorem Wk.least {i : Nat} {p : α} (h : Wk nb a i p) : ∃ j, j ≤ i ∧ AtD nb a j p := NearD.at ⟨i, Nat.le_refl _, h⟩
theorem AtD.after {i : Nat} (h : ∀ p, ¬ AtD nb a i p) : ∀ k p, ¬ AtD nb a (i + k) p
  | 0, p => h p
  | k + 1, p => fun hp => by
    obtain ⟨⟨q, h1, _⟩, _⟩ := AtD.step.mp (show AtD nb a (i + k + 1) p from hp)
    exact AtD.after h k q h1
theorem AtD.none {i : Nat} (h : ∀ p, ¬ AtD nb a i p) {p : α} (hn : ∀ j, j < i → ¬ AtD nb a j p) (j : Nat) : ¬ AtD nb a j p := by
  rcases Nat.lt_or_ge j i with hj | hj
  · exact hn j hj
  · obtain ⟨k, rfl⟩ : ∃ k, j = i + k := ⟨j - i, by omega⟩
    exact AtD.after h k p
/-- what is not yet reached of a list of all -/
noncomputable def togo (nb : α → List α) (a : α) (uni : List α) (i : Nat) : Nat :=
  open Classical in (uni.filter fun p => decide (¬ NearD nb a i p)).length
theorem togo_le (uni : List α) (i : Nat) : togo nb a uni (i + 1) ≤ togo nb a uni i := by
  classical
  unfold togo
  induction uni with
  | nil => simp
  | cons x l ih =>
    by_cases h1 : NearD nb a (i + 1) x
    · rw [List.filter_cons_of_neg (by simpa using h1)]
      by_cases h2 : NearD nb a i x
      · rw [List.filter_cons_of_neg (by simpa using h2)]
        exact ih
      · rw [List.filter_cons_of_pos (by simpa using h2), List.length_cons]
        omega
    · have h2 : ¬ NearD nb a i x := fun h => h1 (h.mono (by omega))
      rw [List.filter_cons_of_pos (by simpa using h1), List.filter_cons_of_pos (by simpa using h2), List.length_cons, List.length_cons]
      omega
theorem togo_zero (uni : List α) (i : Nat) : togo nb a uni i ≤ uni.length := by
  classical
  unfold togo
  exact List.length_filter_le ..
theorem togo_lt {uni : List α} {i : Nat} {p : α} (hp : p ∈ uni) (h : AtD nb a (i + 1) p) : togo nb a uni (i + 1) < togo nb a uni i := by
  classical
  unfold togo
  have sub : ∀ l : List α, (l.filter fun p => decide (¬ NearD nb a (i + 1) p)).length ≤ (l.filter fun p => decide (¬ NearD nb a i p)).length := by
    intro l
    induction l with
    | nil => simp
    | cons x l ih =>
      by_cases h1 : NearD nb a (i + 1) x
      · rw [List.filter_cons_of_neg (by simpa using h1)]
        by_cases h2 : NearD nb a i x
        · rw [List.filter_cons_of_neg (by simpa using h2)]
          exact ih
        · rw [List.filter_cons_of_pos (by simpa using h2), List.length_cons]
          omega
      · have h2 : ¬ NearD nb a i x := fun h => h1 (h.mono (by omega))
        rw [List.filter_cons_of_pos (by simpa using h1), List.filter_cons_of_pos (by simpa using h2), List.length_cons, List.length_cons]
        omega
  induction uni with
  | nil => cases hp
  | cons x l ih =>
    rcases List.mem_cons.mp hp with e | hp'
    · subst e
      rw [List.filter_cons_of_neg (by simpa using h.near), List.filter_cons_of_pos (by simpa using (AtD.step.mp h).2), List.length_cons]
      have := sub l
      omega
    · have ih' := ih hp'
      by_cases h1 : NearD nb a (i + 1) x
      · rw [List.filter_cons_of_neg (by simpa using h1)]
        by_cases h2 : NearD nb a i x
        · rw [List.filter_cons_of_neg (by simpa using h2)]
          exact ih'
        · rw [List.filter_cons_of_pos (by simpa using h2), List.length_cons]
          omega
      · have h2 : ¬ NearD nb a i x := fun h => h1 (h.mono (by omega))
        rw [List.filter_cons_of_pos (by simpa using h1), List.filter_cons_of_pos (by simpa using h2), List.length_cons, List.length_cons]
        omega
/-- each is a follower of the one ahead -/
def Way (nb : α → List α) (l : List α) : Prop := ∀ (j : Nat) (x y : α), l[j]? = some x → l[j + 1]? = some y → y ∈ nb x
theorem Way.one (p : α) : Way nb [p] := fun j x y h1 h2 => by simp at h2
theorem Way.cons {q p : α} {l : List α} (h : Way nb (p :: l)) (hp : p ∈ nb q) : Way nb (q :: p :: l) := fun j x y h1 h2 => by
  cases j with
  | zero =>
    obtain rfl : q = x := by simpa using h1
    obtain rfl : p = y := by simpa using h2
    exact hp
  | succ j => exact h j x y (by simpa using h1) (by simpa using h2)
/-- the knots that are known, each with the one ahead of it -/
def Good (nb : α → List α) (a : α) (p : α) : Option α → Prop
  | none => p = a
  | some q => p ∈ nb q ∧ ∃ j, AtD nb a j q ∧ AtD nb a (j + 1) p
structure Rnd (nb : α → List α) (a : α) (i : Nat) (done : List α) (bl : List (α × Option α)) (later : List α) : Prop where
  keys : ∀ p, p ∈ bl.map (·.1) ↔ NearD nb a i p ∨ p ∈ later
  new : ∀ p, p ∈ later ↔ p ∈ done ∧ ¬ NearD nb a i p
  nodup : (bl.map (·.1)).Nodup
  good : ∀ x ∈ bl, Good nb a x.1 x.2
  first : (a, none) ∈ bl
  short : later.length ≤ bl.length
structure Bfs (nb : α → List α) (a : α) (i : Nat) (bl : List (α × Option α)) (line : List α) : Prop where
  keys : ∀ p, p ∈ bl.map (·.1) ↔ NearD nb a i p
  line : ∀ p, p ∈ line ↔ AtD nb a i p
  nodup : (bl.map (·.1)).Nodup
  good : ∀ x ∈ bl, Good nb a x.1 x.2
  first : (a, none) ∈ bl
theorem Bfs.zero : Bfs nb a 0 [(a, none)] [a] where
  keys p := by rw [NearD.zero]; simp
  line p := by rw [AtD.zero]; simp
  nodup := by simp
  good x hx := by
    obtain rfl : x = (a, none) := by simpa using hx
    exact rfl
  first := by simp
variable {i : Nat} {bl : List (α × Option α)} {line later done : List α}
theorem Bfs.round (h : Bfs nb a i bl line) : Rnd nb a i [] bl [] where
  keys p := by rw [h.keys]; simp
  new p := by simp
  nodup := h.nodup
  good := h.good
  first := h.first
  short := Nat.zero_le _
theorem Rnd.skip (h : Rnd nb a i done bl later) {x : α} (hx : x ∈ bl.map (·.1)) : Rnd nb a i (done ++ [x]) bl later where
  keys := h.keys
  new p := by
    rw [h.new, List.mem_append, List.mem_singleton]
    constructor
    · exact fun ⟨h1, h2⟩ => ⟨.inl h1, h2⟩
    · rintro ⟨h1 | rfl, h2⟩
      · exact ⟨h1, h2⟩
      · rcases (h.keys p).mp hx with h3 | h3
        · exact absurd h3 h2
        · exact (h.new p).mp h3
  nodup := h.nodup
  good := h.good
  first := h.first
  short := h.short
theorem Rnd.add (h : Rnd nb a i done bl later) {x q : α} (hx : x ∉ bl.map (·.1)) (hq : AtD nb a i q) (hxq : x ∈ nb q) : Rnd nb a i (done ++ [x]) (bl ++ [(x, some q)]) (later ++ [x]) := by
  have hn : ¬ NearD nb a i x := fun hn => hx ((h.keys x).mpr (.inl hn))
  refine ⟨fun p => ?_, fun p => ?_, ?_, fun y hy => ?_, List.mem_append_left _ h.first, by simp only [List.length_append, List.length_cons, List.length_nil]; have := h.short; omega⟩
  · rw [List.map_append, List.mem_append, List.mem_append, h.keys, or_assoc]
    rfl
  · rw [List.mem_append, List.mem_append, h.new]
    constructor
    · rintro (⟨h1, h2⟩ | h1)
      · exact ⟨.inl h1, h2⟩
      · obtain rfl : p = x := by simpa using h1
        exact ⟨.inr h1, hn⟩
    · rintro ⟨h1 | h1, h2⟩
      · exact .inl ⟨h1, h2⟩
      · exact .inr h1
  · rw [List.map_append, List.nodup_append]
    refine ⟨h.nodup, by simp, fun y hy z hz e => ?_⟩
    obtain rfl : z = x := by simpa using hz
    subst e
    exact hx hy
  · rcases List.mem_append.mp hy with hy | hy
    · exact h.good y hy
    · obtain rfl : y = (x, some q) := by simpa using hy
      exact ⟨hxq, i, hq, AtD.step.mpr ⟨⟨q, hq, hxq⟩, hn⟩⟩
theorem Rnd.finish {ps : List α} (h : Rnd nb a i (ps.flatMap nb) bl later) (hps : ∀ p, p ∈ ps ↔ AtD nb a i p) : Bfs nb a (i + 1) bl later := by
  have hl : ∀ p, p ∈ later ↔ AtD nb a (i + 1) p := fun p => by
    rw [h.new, AtD.step, List.mem_flatMap]
    constructor
    · rintro ⟨⟨q, h1, h2⟩, h3⟩
      exact ⟨⟨q, (hps q).mp h1, h2⟩, h3⟩
    · rintro ⟨⟨q, h1, h2⟩, h3⟩
      exact ⟨⟨q, (hps q).mpr h1, h2⟩, h3⟩
  exact ⟨fun p => by rw [h.keys, NearD.step, hl], hl, h.nodup, h.good, h.first⟩
/-- back from a knot to the first -/
theorem Bfs.back0 (h : Bfs nb a i bl line) {x : α × Option α} (hx : x ∈ bl) (h0 : AtD nb a 0 x.1) : x.2 = none := by
  have g := h.good x hx
  cases e : x.2 with
  | none => rfl
  | some q =>
    rw [e] at g
    obtain ⟨_, j, _, h2⟩ := g
    exact absurd (h0.uniq h2) (by omega)
theorem Bfs.back (h : Bfs nb a i bl line) {x : α × Option α} (hx : x ∈ bl) {k : Nat} (hk : AtD nb a (k + 1) x.1) : ∃ q, x.2 = some q ∧ x.1 ∈ nb q ∧ AtD nb a k q ∧ q ∈ bl.map (·.1) := by
  have g := h.good x hx
  have hn := (h.keys x.1).mp (List.mem_map_of_mem hx)
  obtain ⟨j0, hj0, hj1⟩ := NearD.at hn
  have e0 := hk.uniq hj1
  cases e : x.2 with
  | none =>
    rw [e] at g
    exact absurd (AtD.zero.mpr (show x.1 = a from g)) (fun h0 => absurd (hk.uniq h0) (by omega))
  | some q =>
    rw [e] at g
    obtain ⟨h1, j, h2, h3⟩ := g
    have : j = k := by have := hk.uniq h3; omega
    subst this
    exact ⟨q, rfl, h1, h2, (h.keys q).mpr (h2.near.mono (by omega))⟩
/-! the law's own search, that may know a knot twice -/
variable [BEq α] [LawfulBEq α]
theorem count_le_length (x : α) (l : List α) : l.count x ≤ l.length := List.count_le_length
structure LR (nb : α → List α) (a : α) (i : Nat) (done seen later : List α) : Prop where
  sn : ∀ p, p ∈ seen ↔ NearD nb a i p
  new : ∀ p, p ∈ later ↔ p ∈ done ∧ ¬ NearD nb a i p
  few : ∀ p, (seen ++ later).count p ≤ 2
structure LB (nb : α → List α) (a : α) (i : Nat) (seen here : List α) : Prop where
  sn : ∀ p, p ∈ seen ↔ NearD nb a i p
  hr : ∀ p, p ∈ here ↔ AtD nb a i p
  few : ∀ p, seen.count p ≤ 2
variable {seen here : List α}
theorem LB.zero : LB nb a 0 [a] [a] where
  sn p := by rw [NearD.zero]; simp
  hr p := by rw [AtD.zero]; simp
  few p := Nat.le_trans (count_le_length p [a]) (by simp)
theorem LB.round (h : LB nb a i seen here) : LR nb a i [] seen [] where
  sn := h.sn
  new p := by simp
  few p := by rw [List.append_nil]; exact h.few p
theorem LR.addAll (h : LR nb a i done seen later) {f : List α} (hf : f.length ≤ 2) : LR nb a i (done ++ f) seen (later ++ f.filter fun p => !(seen ++ later).contains p) := by
  refine ⟨h.sn, fun p => ?_, fun p => ?_⟩
  · rw [List.mem_append, List.mem_filter, List.mem_append, h.new, Bool.not_eq_true', ← Bool.not_eq_true, List.contains_iff_mem, List.mem_append, h.sn, h.new]
    constructor
    · rintro (⟨h1, h2⟩ | ⟨h1, h2⟩)
      · exact ⟨.inl h1, h2⟩
      · exact ⟨.inr h1, fun hn => h2 (.inl hn)⟩
    · rintro ⟨h1 | h1, h2⟩
      · exact .inl ⟨h1, h2⟩
      · by_cases hd : p ∈ done
        · exact .inl ⟨hd, h2⟩
        · exact .inr ⟨h1, fun hx => hx.elim h2 fun hx => hd hx.1⟩
  · rw [← List.append_assoc, List.count_append]
    by_cases hp : p ∈ seen ++ later
    · have : (f.filter fun p => !(seen ++ later).contains p).count p = 0 := by
        rw [List.count_eq_zero, List.mem_filter]
        rintro ⟨_, h2⟩
        rw [Bool.not_eq_true', ← Bool.not_eq_true, List.contains_iff_mem] at h2
        exact h2 hp
      rw [this]
      exact h.few p
    · rw [List.count_eq_zero.mpr hp]
      have := count_le_length p (f.filter fun p => !(seen ++ later).contains p)
      have := List.length_filter_le (fun p => !(seen ++ later).contains p) f
      omega
theorem LR.skip (h : LR nb a i done seen later) {x : α} (hx : x ∈ seen ++ later) : LR nb a i (done ++ [x]) seen later where
  sn := h.sn
  few := h.few
  new p := by
    rw [h.new, List.mem_append, List.mem_singleton]
    constructor
    · exact fun ⟨h1, h2⟩ => ⟨.inl h1, h2⟩
    · rintro ⟨h1 | rfl, h2⟩
      · exact ⟨h1, h2⟩
      · rcases List.mem_append.mp hx with h3 | h3
        · exact absurd ((h.sn p).mp h3) h2
        · exact (h.new p).mp h3
theorem LR.add (h : LR nb a i done seen later) {x : α} (hx : x ∉ seen ++ later) : LR nb a i (done ++ [x]) seen (later ++ [x]) := by
  have hn : ¬ NearD nb a i x := fun hn => hx (List.mem_append_left _ ((h.sn x).mpr hn))
  refine ⟨h.sn, fun p => ?_, fun p => ?_⟩
  · rw [List.mem_append, List.mem_append, h.new]
    constructor
    · rintro (⟨h1, h2⟩ | h1)
      · exact ⟨.inl h1, h2⟩
      · obtain rfl : p = x := by simpa using h1
        exact ⟨.inr h1, hn⟩
    · rintro ⟨h1 | h1, h2⟩
      · exact .inl ⟨h1, h2⟩
      · exact .inr h1
  · rw [← List.append_assoc, List.count_append]
    by_cases e : p = x
    · subst e
      rw [List.count_eq_zero.mpr hx]
      exact Nat.le_trans (Nat.le_of_eq (Nat.zero_add _)) (Nat.le_trans (count_le_length _ _) (by simp))
    · rw [List.count_eq_zero.mpr (show p ∉ [x] by simpa using e)]
      exact h.few p
theorem LR.finish {ps : List α} (h : LR nb a i (ps.flatMap nb) seen later) (hps : ∀ p, p ∈ ps ↔ AtD nb a i p) : LB nb a (i + 1) (seen ++ later) later := by
  have hl : ∀ p, p ∈ later ↔ AtD nb a (i + 1) p := fun p => by
    rw [h.new, AtD.step, List.mem_flatMap]
    constructor
    · rintro ⟨⟨q, h1, h2⟩, h3⟩
      exact ⟨⟨q, (hps q).mp h1, h2⟩, h3⟩
    · rintro ⟨⟨q, h1, h2⟩, h3⟩
      exact ⟨⟨q, (hps q).mpr h1, h2⟩, h3⟩
  exact ⟨fun p => by rw [List.mem_append, h.sn, NearD.step, hl], hl, h.few⟩
/-- few of each of few: few -/
theorem few_len (c : Nat) : ∀ (uni l : List α), (∀ x ∈ l, x ∈ uni) → (∀ x, l.count x ≤ c) → l.length ≤ c * uni.length
  | [], l, h1, _ => by
    cases l with
    | nil => simp
    | cons x l => exact absurd (h1 x (by simp)) (by simp)
  | u :: uni, l, h1, h2 => by
    have ih := few_len c uni (l.filter fun x => !(x == u)) (fun x hx => by
      obtain ⟨h3, h4⟩ := List.mem_filter.mp hx
      rcases List.mem_cons.mp (h1 x h3) with e | h
      · subst e
        simp at h4
      · exact h) (fun x => Nat.le_trans (List.Sublist.count_le x (List.filter_sublist ..)) (h2 x))
    have e : l.length = l.count u + (l.filter fun x => !(x == u)).length := by
      have := List.length_eq_countP_add_countP (fun x => x == u) (l := l)
      rw [List.count, this, List.countP_eq_length_filter (p := fun a => decide ¬ (a == u) = true)]
      congr 2
      apply List.filter_congr
      intro x _
      cases x == u <;> rfl
    have := h2 u
    rw [e, List.length_cons, Nat.mul_add, Nat.mul_one]
    omega
theorem Rnd.len {uni : List α} (h : Rnd nb a i done bl later) (ha : a ∈ uni) (hc : ∀ q p, p ∈ nb q → p ∈ uni) : bl.length ≤ uni.length := by
  have := few_len 1 uni (bl.map (·.1)) (fun x hx => by
    obtain ⟨y, hy, rfl⟩ := List.mem_map.mp hx
    have g := h.good y hy
    cases e : y.2 with
    | none =>
      rw [e] at g
      rw [show y.1 = a from g]
      exact ha
    | some q =>
      rw [e] at g
      exact hc q _ g.1) (fun x => List.nodup_iff_count.mp h.nodup x)
  rw [List.length_map] at this
  omega
theorem NearD.uni {uni : List α} (ha : a ∈ uni) (hc : ∀ q p, p ∈ nb q → p ∈ uni) {p : α} (h : NearD nb a i p) : p ∈ uni := by
  obtain ⟨j, _, hw⟩ := h
  cases j with
  | zero =>
    rw [show p = a from hw]
    exact ha
  | succ j =>
    obtain ⟨q, _, h2⟩ := hw
    exact hc q p h2
theorem LR.len {uni : List α} (h : LR nb a i done seen later) (ha : a ∈ uni) (hc : ∀ q p, p ∈ nb q → p ∈ uni) (hd : ∀ p, p ∈ done → p ∈ uni) : (seen ++ later).length ≤ 2 * uni.length :=
  few_len 2 uni (seen ++ later) (fun x hx => by
    rcases List.mem_append.mp hx with hx | hx
    · exact NearD.uni ha hc ((h.sn x).mp hx)
    · exact hd x ((h.new x).mp hx).1) h.few
end
/-! a dict display with one pair, whose key is a tuple of ints and texts -/
section
def tDisp1T (tk tv : TE) : TE := fun σ H Q => ∀ p, H p = none → tk σ (upd H p (.dT [])) fun x H1 => tv σ H1 fun y H2 => H2 p = some (.dT []) ∧
  ∃ (b : Addr) (k : List L2.Key), x = .ref b ∧ H2 b = some (.tup (k.map kV)) ∧ Q (.ref p) (upd H2 p (.dT [(k, y)]))
theorem pe_disp1T {X : Cx} {pos : Pos} {k v : Expr} {tk tv : TE} (hu : X.A.units + 1 < cLine) (hk : PE X k tk) (hv : PE X v tv) : PE X (.Dict [some k] [v] pos) (tDisp1T tk tv) := by
  refine ⟨fun pins s σ H Q I q => ?_⟩
  have hn := I.hok.fresh (Nat.le_refl s.heap.objs.size)
  have I1 := I.laid (a := s.heap.objs.size) (o := .dT []) (h' := s.heap.push { cls := .type "dict", data := .dict #[] }) (t' := s.toks) (fun _ _ q => Heap.get?_push_of_some _ q) (Nat.le_refl _) (dt_empty s.heap I.big)
  have hlen := pairTrees_length [some k] [v] X.env pos rfl rfl
  have h1 : [some k].length = 1 := rfl
  rw [arm_eval_Dict, zip_pairTrees [some k] [v] X.env pos rfl rfl, dictDisplay_pairs (pairTrees [some k] [v] X.env pos) (fun e => by rw [e] at hlen; cases hlen) (by omega)]
  refine wpAny_bind (wpAny_standAt (wpAny_bind (wpAny_subDictH (knd := tupleKind (mixKind X.prog X.w)) (show X.A.units < cLine by omega) (by omega) ?_)))
  refine pairTrees_cons_walk (thn (hk.run pins _ σ _ _ I1 (q _ hn)) fun u s1 ⟨x, H1, I2, rx, q1⟩ => thn (hv.run pins s1 σ H1 _ I2 q1) fun w2 s2 ⟨y, H2, I3, ry, e, b, ks, ex, eb, q2⟩ => pairTrees_nil_walk ?_)
  subst ex
  cases (show u = Value.ref b from rx)
  obtain ⟨z, hd, xs, r0, dd⟩ := dt_of I3.hok e
  cases r0
  refine ⟨[(ks, b, w2)], ⟨rfl, rfl, key_of I3.hok eb, True.intro⟩, dd, fun h' tk' dd' hs => wpAny_pure ⟨.ref s.heap.objs.size, _, ?_, rfl, q2⟩⟩
  obtain ⟨q, es, ep, hq, h2, h3, h4, _, h5⟩ := dd'
  refine d_write I3 (by rw [e]; exact True.intro) hs ⟨q, hq⟩ ⟨?_, hd, [(ks, b, w2)], .cons ⟨rfl, ?_, ry⟩ .nil, q, es, ep, hq, h2, h3, h4, h5⟩
  · rw [sizeLine_eq]
    exact Nat.le_trans (by decide : 1 ≤ 2) (by decide)
  · rw [upd_ne (ne_of eb e (fun z => nomatch z))]
    exact eb
end
section
variable {P : Program} {w : World} {K : PySem.W.Frag} {mg : Str → Option Value} {base : Heap}
abbrev Kn := Nat × Nat
def knK (p : Kn) : List L2.Key := [.inl (p.1 : Int), .inl (p.2 : Int)]
theorem knK_inj {p q : Kn} (h : knK p = knK q) : p = q := by
  unfold knK at h
  simp only [List.cons.injEq, Sum.inl.injEq, and_true] at h
  exact Prod.ext (by omega) (by omega)
def knV (p : Kn) : HO := .tup [.int (p.1 : Int), .int (p.2 : Int)]
def KnO (H : Hp) : Option Kn → V → Prop
  | none, v => v = .non
  | some q, v => ∃ b, v = .ref b ∧ H b = some (knV q)
theorem KnO.keep {H H' : Hp} (k : Keep H H') : ∀ {o : Option Kn} {v : V}, KnO H o v → KnO H' o v
  | none, _, h => h
  | some _, _, ⟨b, e, h⟩ => ⟨b, e, k _ _ h trivial⟩
def KnsAt (H : Hp) (ps : List Kn) (vs : List V) : Prop := vs.length = ps.length ∧ ∀ (i : Nat) (p : Kn), ps[i]? = some p → ∃ b, vs[i]? = some (.ref b) ∧ H b = some (knV p)
theorem KnsAt.nil {H : Hp} : KnsAt H [] [] := ⟨rfl, fun i p h => by simp at h⟩
theorem KnsAt.keep {H H' : Hp} (k : Keep H H') {ps : List Kn} {vs : List V} (h : KnsAt H ps vs) : KnsAt H' ps vs := ⟨h.1, fun i p hp => by
  obtain ⟨b, h1, h2⟩ := h.2 i p hp
  exact ⟨b, h1, k _ _ h2 trivial⟩⟩
theorem KnsAt.snoc {H : Hp} {ps : List Kn} {vs : List V} {p : Kn} {b : Addr} (h : KnsAt H ps vs) (hb : H b = some (knV p)) : KnsAt H (ps ++ [p]) (vs ++ [.ref b]) := by
  refine ⟨by simp [h.1], fun i q hq => ?_⟩
  by_cases e : i < ps.length
  · rw [List.getElem?_append_left e] at hq
    obtain ⟨c, h1, h2⟩ := h.2 i q hq
    exact ⟨c, by rw [List.getElem?_append_left (by rw [h.1]; exact e)]; exact h1, h2⟩
  · rw [List.getElem?_append_right (by omega)] at hq
    have e2 : i - ps.length = 0 := by
      have := (List.getElem?_eq_some_iff.mp hq).1
      simp at this
      omega
    rw [e2] at hq
    obtain rfl : p = q := by simpa using hq
    exact ⟨b, by rw [List.getElem?_append_right (by rw [h.1]; omega), h.1, e2]; rfl, hb⟩
theorem KnsAt.one {H : Hp} {p : Kn} {b : Addr} (hb : H b = some (knV p)) : KnsAt H [p] [.ref b] := KnsAt.snoc (ps := []) (vs := []) KnsAt.nil hb
theorem KnsAt.get {H : Hp} {ps : List Kn} {vs : List V} {i : Nat} {v : V} (h : KnsAt H ps vs) (hv : vs[i]? = some v) : ∃ p b, ps[i]? = some p ∧ v = .ref b ∧ H b = some (knV p) := by
  have hi := (List.getElem?_eq_some_iff.mp hv).1
  rw [h.1] at hi
  obtain ⟨b, h1, h2⟩ := h.2 i _ (List.getElem?_eq_getElem hi)
  rw [hv] at h1
  exact ⟨_, b, List.getElem?_eq_getElem hi, by injection h1, h2⟩
def knD (p : Kn) : PyData := .tuple [.int (p.1 : Int), .int (p.2 : Int)]
theorem KnsAt.dp {H : Hp} : ∀ {ps : List Kn} {vs : List V}, KnsAt H ps vs → DpAll K H vs (ps.map knD)
  | [], [], _ => .nil
  | [], _ :: _, h => by cases h.1
  | _ :: _, [], h => by cases h.1
  | p :: ps, v :: vs, h => by
    obtain ⟨b, h1, h2⟩ := h.2 0 p rfl
    have e : v = .ref b := by simpa using h1
    subst e
    exact .cons (.tup (SqT.of h2) (.cons (.int _) (.cons (.int _) .nil))) (KnsAt.dp ⟨by simpa using h.1, fun i q hq => by
      obtain ⟨c, h3, h4⟩ := h.2 (i + 1) q (by simpa using hq)
      exact ⟨c, by simpa using h3, h4⟩⟩)
theorem layKns : ∀ ps : List Kn, PyData.canLayAll0 (ps.map knD) = true
  | [] => by simp [PyData.canLayAll0]
  | p :: ps => by simp [knD, PyData.canLayAll0, PyData.canLay0, layKns ps]
theorem deepKns : ∀ ps : List Kn, PyData.depthAll (ps.map knD) ≤ 3
  | [] => by simp [PyData.depthAll]
  | p :: ps => by
    have := deepKns ps
    simp only [List.map_cons, knD, PyData.depthAll, PyData.depth]
    omega
theorem shKns (ps : List Kn) : SeqAt.shaped (.list (ps.map knD)) = true := shapedOf (by simp only [PyData.canLay0]; exact layKns ps) (by
  have := deepKns ps
  simp only [PyData.depth]
  omega)
theorem ne_kns (ps : List Kn) : (!PyData.eqv (.list (ps.map knD)) (.list [])) = !ps.isEmpty := by
  cases ps <;> simp [PyData.eqv, PyData.eqvAll]
def BefAt (H : Hp) (d : Addr) (bl : List (Kn × Option Kn)) : Prop := ∃ kvs : List (List L2.Key × V), H d = some (.dT kvs) ∧ kvs.length = bl.length ∧ (∀ x ∈ bl, ∃ v, valV kvs (knK x.1) = some v ∧ KnO H x.2 v) ∧ ∀ p, p ∉ bl.map (·.1) → valV kvs (knK p) = none
theorem BefAt.keep {H H' : Hp} {d : Addr} {bl : List (Kn × Option Kn)} (k : Keep H H') (hd : H' d = H d) (h : BefAt H d bl) : BefAt H' d bl := by
  obtain ⟨kvs, h1, h2, h3, h4⟩ := h
  refine ⟨kvs, hd.trans h1, h2, fun x hx => ?_, h4⟩
  obtain ⟨v, h5, h6⟩ := h3 x hx
  exact ⟨v, h5, h6.keep k⟩
theorem BefAt.same {H H' : Hp} {d : Addr} {bl : List (Kn × Option Kn)} (s : Same H H') (h : BefAt H d bl) : BefAt H' d bl := by
  obtain ⟨kvs, h1, _⟩ := id h
  exact h.keep (Keep.of s) ((s _ _ h1).trans h1.symm)
theorem Keep.upd {H : Hp} {p : Addr} {o o' : HO} (h : H p = some o) (hn : ¬ still o) : Keep H (upd H p o') := fun b u e st => by
  by_cases q : b = p
  · subst q
    rw [h] at e
    cases e
    exact absurd st hn
  · rw [upd_ne q]
    exact e
theorem BefAt.add {H : Hp} {d : Addr} {bl : List (Kn × Option Kn)} {kvs : List (List L2.Key × V)} (h1 : H d = some (.dT kvs)) (h2 : kvs.length = bl.length) (h3 : ∀ x ∈ bl, ∃ v, valV kvs (knK x.1) = some v ∧ KnO H x.2 v)
    (h4 : ∀ p, p ∉ bl.map (·.1) → valV kvs (knK p) = none) {p : Kn} {o : Option Kn} {v : V} (hp : p ∉ bl.map (·.1)) (hv : KnO H o v) : BefAt (upd H d (.dT (putK kvs (knK p) v))) d (bl ++ [(p, o)]) := by
  have k : Keep H (upd H d (.dT (putK kvs (knK p) v))) := Keep.upd h1 (fun h => h)
  refine ⟨_, upd_same, ?_, fun x hx => ?_, fun q hq => ?_⟩
  · rw [putK_new v (h4 p hp), List.length_append, List.length_append, h2]
    rfl
  · rw [valV_put]
    rcases List.mem_append.mp hx with hx | hx
    · obtain ⟨u, h5, h6⟩ := h3 x hx
      rw [if_neg (fun e => hp (by rw [← knK_inj e]; exact List.mem_map_of_mem hx))]
      exact ⟨u, h5, h6.keep k⟩
    · obtain rfl : x = (p, o) := by simpa using hx
      rw [if_pos rfl]
      exact ⟨v, rfl, hv.keep k⟩
  · rw [List.map_append, List.mem_append, not_or] at hq
    rw [valV_put, if_neg (fun e => hq.2 (by rw [knK_inj e]; simp))]
    exact h4 q hq.1
theorem two_ok : 2 ≤ sizeLine := by decide
theorem one_ok : 1 ≤ sizeLine := by decide
/-! traced -/
def spTraced : Sp := fun vs H Q _ => ∃ (nb : Kn → List Kn) (a : Kn) (d : Addr) (bl : List (Kn × Option Kn)) (i : Nat) (line : List Kn) (p : Kn) (k : Nat) (v : V), vs = [.ref d, v] ∧ KnO H (some p) v ∧ BefAt H d bl ∧ Bfs nb a i bl line ∧ AtD nb a k p ∧ k ≤ i ∧ k ≤ 5000 ∧
  ∀ (H' : Hp) (r : Addr) (ks : List Kn), Same H H' → H' r = some (.lst (vN (ks.map (·.1)))) → Way nb ks → ks.head? = some a → ks.getLast? = some p → ks.length = k + 1 → Q (.ref r) H'
theorem ok_traced (T : Tx K mg) : FnOk P w K mg base CX0 1 T.f_traced T.d_traced ["before", "knot"] spTraced := by
  refine T.F_traced.ok sc_traced (fun vs H Q E h => ?_) (fun cdv A outer s H vs Q E hr h => ?_)
  · obtain ⟨nb, a, d, bl, i, line, p, k, v, rfl, _⟩ := h
    rfl
  · obtain ⟨nb, a, d, bl, i, line, p, k, v, rfl, hv, hbef, hbfs, hk, hki, hk5, q⟩ := h
    have hu := hu_of hr
    have hline : sizeLine = 16777216 := sizeLine_eq
    refine ⟨_, (pss_cons (ps_set (i := 2) sc_traced.nd rfl (Or.inl rfl) (pe_lst pa_nil))
      (pss_cons (ps_while PassesOwn.never (pt_cmp (pc_notN (pv 1)))
        (pss_cons (ps_expr (pe_bm PySem.F.plainAttrs_list PySem.F.slot_list_append PySem.F.type_list_append mt_append (pv 2) (pa_cons (pe_ix (ix_tupK (K := K) rfl) (pv 1) pe_int (fun _ _ => rfl)) pa_nil)))
        (pss_one (ps_set (i := 1) sc_traced.nd rfl (Or.inl rfl) (pe_dget hu (pv 0) (pv 1) (fun _ _ => rfl))))))
      (pss_cons (ps_expr (pe_bm0 PySem.F.plainAttrs_list PySem.F.slot_list_reverse PySem.F.type_list_reverse mt_reverse (pv 2)))
      (pss_one (ps_ret (pv 2)))))), ?_⟩
    refine ⟨Nat.zero_le _, fun f hf => ?_⟩
    generalize hX : upd _ f _ = H1
    obtain ⟨s1, af⟩ := fresh hf hX
    clear hX
    refine ⟨fun m σ H2 => ∃ (L : List Kn) (cur : Option Kn) (u : V), σ = [some (.ref d), some u, some (.ref f)] ∧ Same H H2 ∧ H2 f = some (.lst (vN (L.reverse.map (·.1)))) ∧ KnO H2 cur u ∧
        ((∃ x j, cur = some x ∧ AtD nb a j x ∧ m = j + 1 ∧ j + 1 + L.length = k + 1 ∧ Way nb (x :: L) ∧ (x :: L).getLast? = some p) ∨ (cur = none ∧ m = 0 ∧ Way nb L ∧ L.head? = some a ∧ L.getLast? = some p ∧ L.length = k + 1)),
      ⟨k + 1, [], some p, v, rfl, s1, af, hv.keep (Keep.of s1), .inl ⟨p, k, rfl, hk, rfl, by simp, Way.one p, rfl⟩⟩, ?_⟩
    rintro m σ H2 ⟨L, cur, u, rfl, sm, hL, hu2, hc⟩
    rcases hc with ⟨x, j, rfl, hx, rfl, hlen, hw, hlast⟩ | ⟨rfl, rfl, hw, hhead, hlast, hlen⟩
    · obtain ⟨b, rfl, hb⟩ := hu2
      refine ⟨_, rfl, _, rfl, iteBT rfl ⟨_, fun σ' H' w => w, ?_⟩⟩
      have hxk : x ∈ bl.map (·.1) := (hbfs.keys x).mpr (hx.near.mono (by omega))
      obtain ⟨⟨x', o⟩, hmem, rfl⟩ := List.mem_map.mp hxk
      obtain ⟨kvs, g1, g2, g3, g4⟩ := hbef.same sm
      obtain ⟨v', g5, g6⟩ := g3 _ hmem
      refine ⟨_, rfl, .inl ⟨rfl, _, SqL.of hL⟩, _, rfl, b, _, _, _, rfl, rfl, SqT.of hb, atI_nat (j := 0) rfl, f, _, _, rfl, rfl, hL, ?_, ?_⟩
      · rw [vN_len, List.length_map, List.length_reverse]
        omega
      generalize hX : upd _ f _ = H3
      have s3 : Same H H3 := by rw [← hX]; exact same_updT sm hf
      have k3 : Keep H2 H3 := by rw [← hX]; exact Keep.upd hL (fun h => h)
      have hL3 : H3 f = some (.lst (vN ((x' :: L).reverse.map (·.1)))) := by
        rw [← hX, upd_same, List.reverse_cons, List.map_append]
        unfold vN
        rw [List.map_append]
        rfl
      have hd3 : H3 d = some (.dT kvs) := by
        rw [← hX, upd_ne (ne_of g1 hL (fun z => nomatch z))]
        exact g1
      clear hX
      refine ⟨_, rfl, _, rfl, d, v', rfl, by rw [← g5]; exact DGet.t hd3 (k3 _ _ hb trivial), ?_⟩
      cases j with
      | zero =>
        have hn := hbfs.back0 hmem hx
        have ea := AtD.zero.mp hx
        subst hn ea
        exact ⟨0, by omega, x' :: L, none, v', rfl, s3, hL3, g6.keep k3, .inr ⟨rfl, rfl, hw, rfl, hlast, by rw [List.length_cons]; omega⟩⟩
      | succ j =>
        obtain ⟨y, e1, e2, e3, e4⟩ := hbfs.back hmem hx
        subst e1
        exact ⟨j + 1, by omega, x' :: L, some y, v', rfl, s3, hL3, g6.keep k3, .inl ⟨y, j, rfl, e3, rfl, by rw [List.length_cons]; omega, hw.cons e2, by rw [List.getLast?_cons_cons]; exact hlast⟩⟩
    · subst hu2
      refine ⟨_, rfl, _, rfl, iteBF rfl ?_⟩
      refine ⟨_, rfl, .inl ⟨rfl, _, SqL.of hL⟩, f, _, rfl, rfl, hL, ?_⟩
      refine ⟨_, rfl, q _ f L (same_updT sm hf) ?_ hw hhead hlast hlen⟩
      rw [upd_same]
      unfold vN
      rw [← List.map_reverse, ← List.map_reverse, List.reverse_reverse]
theorem nexts_mem {fs : List (List Nat)} {k x : Nat} (h : x ∈ nexts fs k) : ∃ f ∈ fs, x ∈ f := by
  by_cases e : k < fs.length
  · rw [nexts_at (List.getElem?_eq_getElem e)] at h
    exact ⟨_, List.getElem_mem e, h⟩
  · rw [nexts_end (by omega)] at h
    cases h
mutual
theorem folR_two (e : Nat) : ∀ (t : Tr) (k af : Nat), ∀ f ∈ folR e t k af, f.length ≤ 2
  | .tell _, k, af, f, hf => by
    simp only [folR, List.mem_cons, List.not_mem_nil, or_false] at hf
    subst hf
    exact Nat.le_succ 1
  | .back, k, af, f, hf => by
    simp only [folR, List.mem_cons, List.not_mem_nil, or_false] at hf
    subst hf
    exact Nat.le_succ 1
  | .ife c a b, k, af, f, hf => by
    simp only [folR, List.mem_cons, List.mem_append] at hf
    rcases hf with hf | hf | hf
    · subst hf
      exact Nat.le_refl 2
    · exact fol_two e a _ _ f hf
    · exact fol_two e b _ _ f hf
  | .whl c a, k, af, f, hf => by
    simp only [folR, List.mem_cons] at hf
    rcases hf with hf | hf
    · subst hf
      exact Nat.le_refl 2
    · exact fol_two e a _ _ f hf
theorem fol_two (e : Nat) : ∀ (ts : List Tr) (k th : Nat), ∀ f ∈ fol e ts k th, f.length ≤ 2
  | [], _, _, f, hf => by simp [fol] at hf
  | t :: ts, k, th, f, hf => by
    simp only [fol, List.mem_append] at hf
    rcases hf with hf | hf
    · exact folR_two e t k _ f hf
    · exact fol_two e ts _ _ f hf
end
theorem nexts_two {ts : List Tr} {k : Nat} : (nexts (folOf ts) k).length ≤ 2 := by
  by_cases e : k < (folOf ts).length
  · rw [nexts_at (List.getElem?_eq_getElem e)]
    exact fol_two _ ts _ _ _ (List.getElem_mem e)
  · rw [nexts_end (by omega)]
    exact Nat.zero_le _
end
section
variable {P : Program} {w : World} {K : PySem.W.Frag} {mg : Str → Option Value} {base : Heap}
/-! nearest -/
def nbN (fs : List (List Nat)) (p : Kn) : List Kn := (nexts fs p.1).map fun x => (x, 0)
def uniN (n : Nat) : List Kn := (List.range (n + 1)).map fun x => (x, 0)
theorem uniN_len (n : Nat) : (uniN n).length = n + 1 := by simp [uniN]
theorem uniN_mem {n x : Nat} (h : x ≤ n) : (x, 0) ∈ uniN n := List.mem_map.mpr ⟨x, List.mem_range.mpr (by omega), rfl⟩
theorem nbN_uni {ts : List Tr} (q p : Kn) (h : p ∈ nbN (folOf ts) q) : p ∈ uniN (cnts ts) := by
  obtain ⟨x, hx, rfl⟩ := List.mem_map.mp h
  obtain ⟨f, h1, h2⟩ := nexts_mem hx
  exact uniN_mem (folOf_le h1 h2)
def spNear (T : Tx K mg) : Sp := fun vs H Q _ => ∃ (v : V) (ts : List Tr) (a b : Nat), vs = [v, .int (a : Int), .int (b : Int)] ∧ HelperAt T H ts v ∧ deps ts < 5 ∧ cnts ts ≤ 1000 ∧ a ≤ cnts ts ∧ b ≤ cnts ts ∧
  ((∀ i, ¬ AtD (nbN (folOf ts)) (a, 0) i (b, 0)) → ∀ H' : Hp, Same H H' → Q .non H') ∧
  ∀ k, AtD (nbN (folOf ts)) (a, 0) k (b, 0) → k ≤ 1001 → ∀ (H' : Hp) (r : Addr) (ks : List Kn), Same H H' → H' r = some (.lst (vN (ks.map (·.1)))) → Way (nbN (folOf ts)) ks → ks.head? = some (a, 0) → ks.getLast? = some (b, 0) → ks.length = k + 1 → Q (.ref r) H'
theorem ok_nearest (T : Tx K mg) : FnOk P w K mg base CX0 16 T.f_nearest T.d_nearest ["helper", "first", "last"] (spNear T) := by
  refine T.F_nearest.ok sc_nearest (fun vs H Q E h => ?_) (fun cdv A outer s H vs Q E hr h => ?_)
  · obtain ⟨v, ts, a, b, rfl, _⟩ := h
    rfl
  · obtain ⟨v, ts, a, b, rfl, hh, hd, hc, ha, hb, qn, qs⟩ := h
    have hu := hu_of hr
    have hline : sizeLine = 16777216 := sizeLine_eq
    refine ⟨_, (pss_cons (ps_set (i := 3) sc_nearest.nd rfl (Or.inl rfl) (pe_op (catAK (K := K) rfl) (pe_call (ok_followers_of T 5) (hr.mono (by omega)) rfl T.m_followers_of T.F_followers_of.kp T.B_followers_of .nil pass0 (pa_cons (pv 0) pa_nil)) (pe_tup (pa_cons (pe_tup pa_nil) pa_nil))))
      (pss_cons (ps_set (i := 4) sc_nearest.nd rfl (Or.inl rfl) (pe_disp1T hu (pe_tup (pa_cons (pv 1) (pa_cons pe_int pa_nil))) pe_non))
      (pss_cons (ps_set (i := 5) sc_nearest.nd rfl (Or.inl rfl) (pe_lst (pa_cons (pe_tup (pa_cons (pv 1) (pa_cons pe_int pa_nil))) pa_nil)))
      (pss_cons (ps_while PassesOwn.never (pt_cmpR (neDK (K := K) rfl hr.units) (pv 5) (pe_lst pa_nil) (nomark _))
        (pss_cons (ps_if (pt_cmp (pc_din hu (pe_tup (pa_cons (pv 2) (pa_cons pe_int pa_nil))) (pv 4)))
          (pss_one (ps_ret (pe_call (ok_traced T) (hr.mono (by omega)) rfl T.m_traced T.F_traced.kp T.B_traced .nil pass0 (pa_cons (pv 4) (pa_cons (pe_tup (pa_cons (pv 2) (pa_cons pe_int pa_nil))) pa_nil)))))
          pss_nil)
        (pss_cons (ps_set (i := 6) sc_nearest.nd rfl (Or.inl rfl) (pe_lst pa_nil))
        (pss_cons (ps_for PassesOwn.never rfl (pi_listK (K := K) rfl (pv 5)) (pg_name (i := 7) sc_nearest.nd rfl (Or.inl rfl))
          (pss_one (ps_for PassesOwn.never rfl (pi_tupK (K := K) rfl (pe_ix (ix_tupK (K := K) rfl) (pv 3) (pe_ix (ix_tupK (K := K) rfl) (pv 7) pe_int (fun _ _ => rfl)) (fun _ _ => rfl))) (pg_name (i := 8) sc_nearest.nd rfl (Or.inl rfl))
            (pss_one (ps_if (pt_cmp (pc_dnotin hu (pe_tup (pa_cons (pv 8) (pa_cons pe_int pa_nil))) (pv 4)))
              (pss_cons (ps_dput hu (pv 4) (pe_tup (pa_cons (pv 8) (pa_cons pe_int pa_nil))) (pv 7) rfl)
              (pss_one (ps_expr (pe_bm PySem.F.plainAttrs_list PySem.F.slot_list_append PySem.F.type_list_append mt_append (pv 6) (pa_cons (pe_tup (pa_cons (pv 8) (pa_cons pe_int pa_nil))) pa_nil)))))
              pss_nil)))))
        (pss_one (ps_set (i := 5) sc_nearest.nd rfl (Or.inl rfl) (pv 6)))))))
      (pss_one (ps_ret pe_non)))))), ?_⟩
    refine ⟨_, rfl, v, ts, rfl, hh, hd, hc, fun H1 g gs s1 ng hg tg => ?_⟩
    have hgl := tg.len
    have hfl := folOf_len ts
    refine ⟨Nat.zero_le _, fun e0 he0 => ?_⟩
    generalize hX : upd _ e0 _ = H2
    obtain ⟨s2, ae0⟩ := fresh he0 hX
    clear hX
    refine ⟨one_ok, fun c0 hc0 => ?_⟩
    generalize hX : upd _ c0 _ = H3
    obtain ⟨s3, ac0⟩ := fresh hc0 hX
    clear hX
    refine catT (s3 _ _ (s2 _ _ hg)) ac0 (by simp only [List.length_cons, List.length_nil]; omega) fun H4 r s4 hr4 => ?_
    have t4 : TupsAt H4 (folOf ts ++ [[]]) (gs ++ [.ref e0]) := TupsAt.snoc (f := []) (s4 _ _ (s3 _ _ ae0)) (tg.keep (Keep.of (s2.trans (s3.trans s4))))
    generalize gs ++ [V.ref e0] = gs' at hr4 t4
    have s04 : Same H H4 := s1.trans (s2.trans (s3.trans s4))
    refine fun d hd4 => ?_
    generalize hX : upd _ d _ = H5
    obtain ⟨s5, ad⟩ := fresh hd4 hX
    clear hX
    refine ⟨_, rfl, two_ok, fun t0 ht0 => ?_⟩
    generalize hX : upd _ t0 _ = H6
    obtain ⟨s6, at0⟩ := fresh ht0 hX
    clear hX
    refine ⟨s6 _ _ ad, t0, knK (a, 0), rfl, at0, ?_⟩
    generalize hX : upd _ d _ = H7
    have s47 : Same H4 H7 := by rw [← hX]; exact same_updT (s5.trans s6) hd4
    have b7 : BefAt H7 d [((a, 0), none)] := by
      rw [← hX]
      refine ⟨_, upd_same, rfl, fun x hx => ?_, fun p hp => ?_⟩
      · obtain rfl : x = ((a, 0), none) := by simpa using hx
        exact ⟨.non, valV_pos (p := (knK (a, 0), V.non)) rfl, rfl⟩
      · exact valV_neg (p := (knK (a, 0), V.non)) (fun e => hp (by rw [← knK_inj e]; simp))
    clear hX
    refine ⟨_, rfl, two_ok, fun t1 ht1 => ?_⟩
    generalize hX : upd _ t1 _ = H8
    obtain ⟨s8, at1⟩ := fresh ht1 hX
    clear hX
    refine ⟨one_ok, fun l0 hl0 => ?_⟩
    generalize hX : upd _ l0 _ = H9
    obtain ⟨s9, al0⟩ := fresh hl0 hX
    clear hX
    have s49 : Same H4 H9 := s47.trans (s8.trans s9)
    have ha0 : ((a, 0) : Kn) ∈ uniN (cnts ts) := uniN_mem ha
    have hcl := nbN_uni (ts := ts)
    generalize hnb : nbN (folOf ts) = nb at qn qs hcl
    have hul := uniN_len (cnts ts)
    have hun : ∀ p ∈ uniN (cnts ts), p.1 ≤ cnts ts := fun p hp => by
      obtain ⟨x, hx, rfl⟩ := List.mem_map.mp hp
      have := List.mem_range.mp hx
      show x ≤ cnts ts
      omega
    generalize uniN (cnts ts) = uni at ha0 hcl hul hun
    refine ⟨fun m σ H2 => ∃ (i : Nat) (ps : List Kn) (bl : List (Kn × Option Kn)) (l : Addr) (rs : List V) (v6 v7 v8 : Option V), m = togo nb (a, 0) uni i + (if ps = [] then 0 else 1) ∧ σ = [some v, some (.int (a : Int)), some (.int (b : Int)), some (.ref r), some (.ref d), some (.ref l), v6, v7, v8] ∧
        Same H4 H2 ∧ BefAt H2 d bl ∧ H2 l = some (.lst rs) ∧ KnsAt H2 ps rs ∧ Bfs nb (a, 0) i bl ps ∧ (∀ j, j < i → ¬ AtD nb (a, 0) j (b, 0)) ∧ (ps ≠ [] → i + togo nb (a, 0) uni i ≤ uni.length),
      ⟨_, 0, [(a, 0)], [((a, 0), none)], l0, [.ref t1], none, none, none, rfl, rfl, s49, (b7.same s8).same s9, al0, KnsAt.one (s9 _ _ at1), Bfs.zero, fun j hj => absurd hj (Nat.not_lt_zero _), fun _ => by have := togo_zero (nb := nb) (a := (a, 0)) uni 0; omega⟩, ?_⟩
    rintro m σ Ha ⟨i, ps, bl, l, rs, v6, v7, v8, rfl, rfl, sa, hbef, hl, hkn, hbfs, hno, htg⟩
    refine ⟨_, rfl, Nat.zero_le _, fun n hn => ?_⟩
    generalize hX : upd _ n _ = Hb
    obtain ⟨sb, an⟩ := fresh hn hX
    clear hX
    have hlb := sb _ _ hl
    have kb := hkn.keep (Keep.of sb)
    refine ⟨.list (ps.map knD), .list [], .lst (SqL.of hlb) kb.dp, .lst (SqL.of an) .nil, shKns _, by decide +kernel, ?_⟩
    rw [ne_kns]
    refine ⟨_, rfl, ?_⟩
    cases hps : ps with
    | nil =>
      subst hps
      refine iteBF rfl ?_
      exact qn (AtD.none (fun p hp => by have := (hbfs.line p).mpr hp; cases this) hno) _ (s04.trans (sa.trans sb))
    | cons p0 ps0 =>
      rw [← hps]
      have hne : ps ≠ [] := by rw [hps]; exact List.cons_ne_nil _ _
      refine iteBT (by rw [hps]; rfl) ⟨_, fun σ' H' w => w, ?_⟩
      have b2 := hbef.same sb
      refine ⟨_, rfl, two_ok, fun t2 ht2 => ?_⟩
      generalize hX : upd _ t2 _ = Hc
      obtain ⟨sc, at2⟩ := fresh ht2 hX
      clear hX
      have b3 := b2.same sc
      obtain ⟨kvs, g1, g2, g3, g4⟩ := id b3
      refine ⟨_, rfl, d, _, rfl, DGet.t (k := knK (b, 0)) g1 at2, ?_⟩
      by_cases hk : ((b, 0) : Kn) ∈ bl.map (·.1)
      · obtain ⟨x, hx, hx1⟩ := List.mem_map.mp hk
        obtain ⟨u, g5, _⟩ := g3 x hx
        rw [hx1] at g5
        rw [g5]
        refine ⟨_, rfl, iteBT rfl ?_⟩
        obtain ⟨j, hj1, hj2⟩ := NearD.at ((hbfs.keys _).mp hk)
        obtain rfl : j = i := by
          rcases Nat.lt_or_ge j i with h | h
          · exact absurd hj2 (hno j h)
          · omega
        have hi := htg hne
        refine ⟨_, rfl, _, rfl, two_ok, fun t3 ht3 => ?_⟩
        generalize hX : upd _ t3 _ = Hd
        obtain ⟨sd, at3⟩ := fresh ht3 hX
        clear hX
        refine ⟨nb, (a, 0), d, bl, j, ps, (b, 0), j, _, rfl, ⟨t3, rfl, at3⟩, b3.same sd, hbfs, hj2, Nat.le_refl _, by omega, fun H' r' ks s' h' w1 w2 w3 w4 => ?_⟩
        exact qs j hj2 (by omega) H' r' ks (s04.trans (sa.trans (sb.trans (sc.trans (sd.trans s'))))) h' w1 w2 w3 w4
      · rw [g4 _ hk]
        refine ⟨_, rfl, iteBF rfl ?_⟩
        have hno2 : ∀ j, j < i + 1 → ¬ AtD nb (a, 0) j (b, 0) := fun j hj h => by
          rcases Nat.lt_or_ge j i with e | e
          · exact hno j e h
          · obtain rfl : j = i := by omega
            exact hk ((hbfs.keys _).mpr h.near)
        refine ⟨Nat.zero_le _, fun e he => ?_⟩
        generalize hX : upd _ e _ = Hd
        obtain ⟨sd, ae⟩ := fresh he hX
        clear hX
        have hlc := sc _ _ hlb
        have nle : l ≠ e := ne_of_none hlc he
        have nde : d ≠ e := ne_of_none g1 he
        have ndl : d ≠ l := ne_of g1 hlc (fun z => nomatch z)
        have s4d : Same H4 Hd := sa.trans (sb.trans (sc.trans sd))
        have e4 : H4 e = none := by
          cases h : H4 e with
          | none => rfl
          | some o => rw [(sa.trans (sb.trans sc)) _ _ h] at he; cases he
        refine ⟨_, rfl, l, rfl, ⟨_, SqL.of (sd _ _ hlc)⟩, ?_⟩
        refine for_list (K := K) (xs := rs) (fun j σ Hx => ∃ (bl2 : List (Kn × Option Kn)) (later : List Kn) (rs2 : List V) (v7 v8 : Option V), σ = [some v, some (.int (a : Int)), some (.int (b : Int)), some (.ref r), some (.ref d), some (.ref l), some (.ref e), v7, v8] ∧
            Same H4 Hx ∧ BefAt Hx d bl2 ∧ Hx l = some (.lst rs) ∧ KnsAt Hx ps rs ∧ Hx e = some (.lst rs2) ∧ KnsAt Hx later rs2 ∧ Rnd nb (a, 0) i ((ps.take j).flatMap nb) bl2 later)
          ⟨bl, [], [], v7, v8, rfl, s4d, b3.same sd, sd _ _ hlc, kb.keep (Keep.of (sc.trans sd)), ae, KnsAt.nil, hbfs.round⟩ (fun j σ Hx hj ⟨_, _, _, _, _, _, _, _, h, _⟩ => SqL.of h) ?_ ?_
        · rintro j x σ Hx hx ⟨bl2, later, rs2, v7, v8, rfl, sx, bx, hlx, kx, hex, kex, hrnd⟩
          obtain ⟨p, kb1, hp, rfl, hkb⟩ := kx.get hx
          have hpat : AtD nb (a, 0) i p := (hbfs.line p).mp (List.mem_of_getElem? hp)
          have tx := t4.keep (Keep.of sx)
          have hrx := sx _ _ hr4
          have hpn : p.1 ≤ cnts ts := hun p (NearD.uni ha0 hcl hpat.near)
          obtain ⟨fl, hfl2⟩ : ∃ fl, (folOf ts ++ [[]])[p.1]? = some fl := ⟨_, List.getElem?_eq_getElem (by simp; omega)⟩
          have hnx : nb p = fl.map fun x => (x, 0) := by
            rw [← hnb]
            unfold nbN nexts
            rw [List.getD_eq_getElem?_getD, hfl2]
            rfl
          obtain ⟨pf, e1, e2⟩ := tx.get hfl2
          refine ⟨_, rfl, _, rfl, kb1, _, _, _, rfl, rfl, SqT.of hkb, atI_nat (j := 0) rfl, r, _, _, _, rfl, rfl, SqT.of hrx, atI_nat e1, pf, rfl, ⟨_, SqT.of e2⟩, ?_⟩
          refine for_tup (K := K) (xs := vN fl) (fun k σ Hy => ∃ (bl2 : List (Kn × Option Kn)) (later : List Kn) (rs2 : List V) (v8 : Option V), σ = [some v, some (.int (a : Int)), some (.int (b : Int)), some (.ref r), some (.ref d), some (.ref l), some (.ref e), some (.ref kb1), v8] ∧
              Same H4 Hy ∧ BefAt Hy d bl2 ∧ Hy l = some (.lst rs) ∧ KnsAt Hy ps rs ∧ Hy e = some (.lst rs2) ∧ KnsAt Hy later rs2 ∧ Hy kb1 = some (knV p) ∧ Hy pf = some (.tup (vN fl)) ∧ Rnd nb (a, 0) i ((ps.take j).flatMap nb ++ (fl.take k).map fun x => (x, 0)) bl2 later)
            ⟨bl2, later, rs2, v8, rfl, sx, bx, hlx, kx, hex, kex, hkb, e2, by simpa using hrnd⟩ (fun k σ Hy hk ⟨_, _, _, _, _, _, _, _, _, _, _, _, h, _⟩ => SqT.of h) ?_ ?_
          · rintro k y σ Hy hy ⟨bl2, later, rs2, v8, rfl, sy, by2, hly, ky, hey, key, hkby, hpf, hrnd⟩
            obtain ⟨q, hq, rfl⟩ := vN_get hy
            have htk : (fl.take (k + 1)).map (fun x => ((x, 0) : Kn)) = (fl.take k).map (fun x => (x, 0)) ++ [(q, 0)] := by
              rw [List.take_add_one, hq, List.map_append]
              rfl
            have hqn : ((q, 0) : Kn) ∈ nb p := by
              rw [hnx]
              exact List.mem_map.mpr ⟨q, List.mem_of_getElem? hq, rfl⟩
            rw [htk, ← List.append_assoc]
            generalize hdn : (ps.take j).flatMap nb ++ (fl.take k).map (fun x => ((x, 0) : Kn)) = done at hrnd
            refine ⟨_, rfl, two_ok, fun t4 ht4 => ?_⟩
            generalize hX : upd _ t4 _ = Hz
            obtain ⟨sz, at4⟩ := fresh ht4 hX
            clear hX
            have bz := by2.same sz
            obtain ⟨kvs2, g1, g2, g3, g4⟩ := id bz
            refine ⟨_, rfl, d, _, rfl, DGet.t (k := knK (q, 0)) g1 at4, ?_⟩
            by_cases hk2 : ((q, 0) : Kn) ∈ bl2.map (·.1)
            · obtain ⟨x, hx, hx1⟩ := List.mem_map.mp hk2
              obtain ⟨u, g5, _⟩ := g3 x hx
              rw [hx1] at g5
              rw [g5]
              refine ⟨_, rfl, iteBF rfl ?_⟩
              exact ⟨bl2, later, rs2, _, rfl, sy.trans sz, bz, sz _ _ hly, ky.keep (Keep.of sz), sz _ _ hey, key.keep (Keep.of sz), sz _ _ hkby, sz _ _ hpf, hrnd.skip hk2⟩
            · rw [g4 _ hk2]
              refine ⟨_, rfl, iteBT rfl ?_⟩
              refine ⟨_, rfl, _, rfl, _, rfl, two_ok, fun t5 ht5 => ?_⟩
              generalize hX : upd _ t5 _ = Hv
              obtain ⟨sv, at5⟩ := fresh ht5 hX
              clear hX
              have g1v := sv _ _ g1
              have hlen := hrnd.len ha0 hcl
              refine ⟨d, _, rfl, DPut.t (k := knK (q, 0)) g1v at5 (by omega), ?_⟩
              have kd : Keep Hv (upd Hv d (.dT (putK kvs2 (knK (q, 0)) (.ref kb1)))) := Keep.upd g1v (fun h => h)
              have bw := BefAt.add g1v g2 (fun x hx => let ⟨u, h1, h2⟩ := g3 x hx; ⟨u, h1, h2.keep (Keep.of sv)⟩) g4 hk2 (show KnO Hv (some p) (.ref kb1) from ⟨kb1, rfl, sv _ _ (sz _ _ hkby)⟩)
              have nd4 : ∀ o : HO, H4 d ≠ some o := fun o h => by rw [hd4] at h; cases h
              generalize hX : upd Hv d _ = Hw at bw kd
              have s4w : Same H4 Hw := by rw [← hX]; exact same_updT (sy.trans (sz.trans sv)) hd4
              have hlw : Hw l = some (.lst rs) := by rw [← hX, upd_ne (Ne.symm ndl)]; exact sv _ _ (sz _ _ hly)
              have hew : Hw e = some (.lst rs2) := by rw [← hX, upd_ne (Ne.symm nde)]; exact sv _ _ (sz _ _ hey)
              clear hX
              have kyw : Keep Hy Hw := (Keep.of (sz.trans sv)).trans kd
              refine ⟨_, rfl, .inl ⟨rfl, _, SqL.of hew⟩, _, rfl, two_ok, fun t6 ht6 => ?_⟩
              generalize hX : upd _ t6 _ = Hu
              obtain ⟨su, at6⟩ := fresh ht6 hX
              clear hX
              have heu := su _ _ hew
              have kel := key.1
              have hsh := hrnd.short
              refine ⟨e, _, _, rfl, rfl, heu, by omega, ?_⟩
              have ke : Keep Hu (upd Hu e (.lst (rs2 ++ [.ref t6]))) := Keep.upd heu (fun h => h)
              have kyy : Keep Hy (upd Hu e (.lst (rs2 ++ [.ref t6]))) := (kyw.trans (Keep.of su)).trans ke
              refine ⟨bl2 ++ [((q, 0), some p)], later ++ [(q, 0)], rs2 ++ [.ref t6], _, rfl, same_updT (s4w.trans su) e4, (bw.same su).keep ke (upd_ne nde), by rw [upd_ne nle]; exact su _ _ hlw, ky.keep kyy, upd_same, (key.keep kyy).snoc (ke _ _ at6 trivial), kyy _ _ hkby trivial, kyy _ _ hpf trivial, hrnd.add hk2 hpat hqn⟩
          · rintro σ Hy ⟨bl2, later, rs2, v8, rfl, sy, by2, hly, ky, hey, key, hkby, hpf, hrnd⟩
            refine ⟨bl2, later, rs2, _, _, rfl, sy, by2, hly, ky, hey, key, ?_⟩
            rw [vN_len, List.take_length, ← hnx] at hrnd
            rw [List.take_add_one, hp, List.flatMap_append]
            simpa using hrnd
        · rintro σ Hx ⟨bl2, later, rs2, v7, v8, rfl, sx, bx, hlx, kx, hex, kex, hrnd⟩
          rw [hkn.1, List.take_length] at hrnd
          have hb2 := hrnd.finish hbfs.line
          have hle := togo_le (nb := nb) (a := (a, 0)) uni i
          have hi := htg hne
          have hlt : later ≠ [] → togo nb (a, 0) uni (i + 1) < togo nb (a, 0) uni i := fun hl => by
            obtain ⟨p, hp⟩ := List.exists_mem_of_ne_nil _ hl
            have hat := (hb2.line p).mp hp
            exact togo_lt (NearD.uni ha0 hcl hat.near) hat
          refine ⟨_, rfl, _, ?_, i + 1, later, bl2, e, rs2, _, _, _, rfl, rfl, sx, bx, hex, kex, hb2, hno2, fun hl => by have := hlt hl; omega⟩
          rw [if_neg hne]
          by_cases hl : later = []
          · rw [if_pos hl]
            omega
          · rw [if_neg hl]
            have := hlt hl
            omega
end
section
variable {P : Program} {w : World} {K : PySem.W.Frag} {mg : Str → Option Value} {base : Heap}
/-! tracked -/
def turn (tl : List Kn) (p s : Nat) : Nat := match tl[p]? with
  | some t => if s = 0 then t.1 else t.2
  | none => 0
def nbT (fs : List (List Nat)) (tl : List Kn) (p : Kn) : List Kn := (nexts fs p.1).map fun x => (x, turn tl p.1 p.2)
def uniT (n : Nat) : List Kn := (List.range (n + 1)).flatMap fun x => [(x, 0), (x, 1)]
theorem uniT_len : ∀ n : Nat, (uniT n).length = 2 * (n + 1)
  | 0 => rfl
  | n + 1 => by
    have ih := uniT_len n
    unfold uniT at ih ⊢
    rw [List.range_succ, List.flatMap_append, List.length_append, ih]
    simp only [List.flatMap_cons, List.flatMap_nil, List.append_nil, List.length_cons, List.length_nil]
    omega
theorem uniT_mem {n : Nat} {p : Kn} : p ∈ uniT n ↔ p.1 ≤ n ∧ p.2 ≤ 1 := by
  unfold uniT
  rw [List.mem_flatMap]
  constructor
  · rintro ⟨x, hx, hp⟩
    have hx := List.mem_range.mp hx
    simp only [List.mem_cons, List.not_mem_nil, or_false] at hp
    rcases hp with rfl | rfl
    · exact ⟨by show x ≤ n; omega, Nat.zero_le _⟩
    · exact ⟨by show x ≤ n; omega, Nat.le_refl _⟩
  · rintro ⟨h1, h2⟩
    refine ⟨p.1, List.mem_range.mpr (by omega), ?_⟩
    obtain ⟨x, s⟩ := p
    have h2 : s ≤ 1 := h2
    simp only [List.mem_cons, List.not_mem_nil, or_false, Prod.mk.injEq, true_and]
    omega
def Bits (tl : List Kn) : Prop := ∀ t ∈ tl, t.1 ≤ 1 ∧ t.2 ≤ 1
theorem turn_le {tl : List Kn} (h : Bits tl) (p s : Nat) : turn tl p s ≤ 1 := by
  unfold turn
  split
  · rename_i t ht
    have := h t (List.mem_of_getElem? ht)
    split <;> omega
  · omega
theorem nbT_uni {ts : List Tr} {tl : List Kn} (hb : Bits tl) (q p : Kn) (h : p ∈ nbT (folOf ts) tl q) : p ∈ uniT (cnts ts) := by
  obtain ⟨x, hx, rfl⟩ := List.mem_map.mp h
  obtain ⟨f, h1, h2⟩ := nexts_mem hx
  exact uniT_mem.mpr ⟨folOf_le h1 h2, turn_le hb _ _⟩
theorem turn_at {tl : List Kn} {p s : Nat} {t : Kn} (h : tl[p]? = some t) (hs : s ≤ 1) : atI [V.int (t.1 : Int), V.int (t.2 : Int)] (s : Int) = some (.int (turn tl p s : Int)) := by
  refine atI_nat ?_
  unfold turn
  rw [h]
  rcases Nat.lt_or_ge s 1 with e | e
  · obtain rfl : s = 0 := by omega
    rfl
  · obtain rfl : s = 1 := by omega
    rfl
theorem hu65_of {k : Nat} {A : Around} (hr : Room k A) : A.units + 65 < cLine := by
  have := hr.un
  omega
def spTrack (T : Tx K mg) : Sp := fun vs H Q _ => ∃ (v : V) (ts : List Tr) (tp : Addr) (tvs : List V) (tl : List Kn) (s b c : Nat), vs = [v, .ref tp, .int (s : Int), .int (b : Int), .int (c : Int)] ∧ HelperAt T H ts v ∧ deps ts < 5 ∧ cnts ts ≤ 1000 ∧
  H tp = some (.lst tvs) ∧ KnsAt H tl tvs ∧ cnts ts ≤ tl.length ∧ Bits tl ∧ s ≤ 1 ∧ b ≤ cnts ts ∧ c ≤ 1 ∧
  ((∀ i, ¬ AtD (nbT (folOf ts) tl) (0, s) i (b, c)) → ∀ H' : Hp, Same H H' → Q .non H') ∧
  ∀ k, AtD (nbT (folOf ts) tl) (0, s) k (b, c) → k ≤ 2002 → ∀ (H' : Hp) (r : Addr) (ks : List Kn), Same H H' → H' r = some (.lst (vN (ks.map (·.1)))) → Way (nbT (folOf ts) tl) ks → ks.head? = some (0, s) → ks.getLast? = some (b, c) → ks.length = k + 1 → Q (.ref r) H'
theorem ok_tracked (T : Tx K mg) : FnOk P w K mg base CX0 16 T.f_tracked T.d_tracked ["helper", "turns", "state", "last", "due"] (spTrack T) := by
  refine T.F_tracked.ok sc_tracked (fun vs H Q E h => ?_) (fun cdv A outer st H vs Q E hr h => ?_)
  · obtain ⟨v, ts, tp, tvs, tl, s, b, c, rfl, _⟩ := h
    rfl
  · obtain ⟨v, ts, tp, tvs, tl, s, b, c, rfl, hh, hd, hc, htp0, htk0, htll, hbit, hs, hb, hcc, qn, qs⟩ := h
    have hu := hu_of hr
    have hline : sizeLine = 16777216 := sizeLine_eq
    refine ⟨_, (pss_cons (ps_set (i := 5) sc_tracked.nd rfl (Or.inl rfl) (pe_op (catAK (K := K) rfl) (pe_call (ok_followers_of T 5) (hr.mono (by omega)) rfl T.m_followers_of T.F_followers_of.kp T.B_followers_of .nil pass0 (pa_cons (pv 0) pa_nil)) (pe_tup (pa_cons (pe_tup pa_nil) pa_nil))))
      (pss_cons (ps_set (i := 6) sc_tracked.nd rfl (Or.inl rfl) (pe_tup (pa_cons pe_int (pa_cons (pv 2) pa_nil))))
      (pss_cons (ps_set (i := 7) sc_tracked.nd rfl (Or.inl rfl) (pe_disp1T hu (pv 6) pe_non))
      (pss_cons (ps_set (i := 8) sc_tracked.nd rfl (Or.inl rfl) (pe_lst (pa_cons (pv 6) pa_nil)))
      (pss_cons (ps_while PassesOwn.never (pt_cmpR (neDK (K := K) rfl hr.units) (pv 8) (pe_lst pa_nil) (nomark _))
        (pss_cons (ps_if (pt_cmp (pc_din hu (pe_tup (pa_cons (pv 3) (pa_cons (pv 4) pa_nil))) (pv 7)))
          (pss_one (ps_ret (pe_call (ok_traced T) (hr.mono (by omega)) rfl T.m_traced T.F_traced.kp T.B_traced .nil pass0 (pa_cons (pv 7) (pa_cons (pe_tup (pa_cons (pv 3) (pa_cons (pv 4) pa_nil))) pa_nil)))))
          pss_nil)
        (pss_cons (ps_set (i := 9) sc_tracked.nd rfl (Or.inl rfl) (pe_lst pa_nil))
        (pss_cons (ps_for PassesOwn.never rfl (pi_listK (K := K) rfl (pv 8)) (pg_name (i := 10) sc_tracked.nd rfl (Or.inl rfl))
          (pss_one (ps_for PassesOwn.never rfl (pi_tupK (K := K) rfl (pe_ix (ix_tupK (K := K) rfl) (pv 5) (pe_ix (ix_tupK (K := K) rfl) (pv 10) pe_int (fun _ _ => rfl)) (fun _ _ => rfl))) (pg_name (i := 11) sc_tracked.nd rfl (Or.inl rfl))
            (pss_cons (ps_set (i := 12) sc_tracked.nd rfl (Or.inl rfl) (pe_tup (pa_cons (pv 11) (pa_cons (pe_ix (ix_tupK (K := K) rfl) (pe_ix (ix_listK (K := K) rfl) (pv 1) (pe_ix (ix_tupK (K := K) rfl) (pv 10) pe_int (fun _ _ => rfl)) (fun _ _ => rfl)) (pe_ix (ix_tupK (K := K) rfl) (pv 10) pe_int (fun _ _ => rfl)) (fun _ _ => rfl)) pa_nil))))
            (pss_one (ps_if (pt_cmp (pc_dnotin hu (pv 12) (pv 7)))
              (pss_cons (ps_dput hu (pv 7) (pv 12) (pv 10) rfl)
              (pss_one (ps_expr (pe_bm PySem.F.plainAttrs_list PySem.F.slot_list_append PySem.F.type_list_append mt_append (pv 9) (pa_cons (pv 12) pa_nil)))))
              pss_nil))))))
        (pss_one (ps_set (i := 8) sc_tracked.nd rfl (Or.inl rfl) (pv 9)))))))
      (pss_one (ps_ret pe_non))))))), ?_⟩
    refine ⟨_, rfl, v, ts, rfl, hh, hd, hc, fun H1 g gs s1 ng hg tg => ?_⟩
    have hgl := tg.len
    have hfl := folOf_len ts
    refine ⟨Nat.zero_le _, fun e0 he0 => ?_⟩
    generalize hX : upd _ e0 _ = H2
    obtain ⟨s2, ae0⟩ := fresh he0 hX
    clear hX
    refine ⟨one_ok, fun c0 hc0 => ?_⟩
    generalize hX : upd _ c0 _ = H3
    obtain ⟨s3, ac0⟩ := fresh hc0 hX
    clear hX
    refine catT (s3 _ _ (s2 _ _ hg)) ac0 (by simp only [List.length_cons, List.length_nil]; omega) fun H3b r s3b hr3 => ?_
    have t3 : TupsAt H3b (folOf ts ++ [[]]) (gs ++ [.ref e0]) := TupsAt.snoc (f := []) (s3b _ _ (s3 _ _ ae0)) (tg.keep (Keep.of (s2.trans (s3.trans s3b))))
    generalize gs ++ [V.ref e0] = gs' at hr3 t3
    refine ⟨_, rfl, two_ok, fun t0 ht0 => ?_⟩
    generalize hX : upd _ t0 _ = H4
    obtain ⟨s4, at0⟩ := fresh ht0 hX
    clear hX
    have hr4 := s4 _ _ hr3
    have t4 := t3.keep (Keep.of s4)
    have s04 : Same H H4 := s1.trans (s2.trans (s3.trans (s3b.trans s4)))
    have htp4 := s04 _ _ htp0
    have htk4 := htk0.keep (Keep.of s04)
    refine fun d hd4 => ?_
    generalize hX : upd _ d _ = H5
    obtain ⟨s5, ad⟩ := fresh hd4 hX
    clear hX
    refine ⟨_, rfl, ad, t0, knK (0, s), rfl, s5 _ _ at0, ?_⟩
    generalize hX : upd _ d _ = H7
    have s47 : Same H4 H7 := by rw [← hX]; exact same_updT s5 hd4
    have b7 : BefAt H7 d [((0, s), none)] := by
      rw [← hX]
      refine ⟨_, upd_same, rfl, fun x hx => ?_, fun p hp => ?_⟩
      · obtain rfl : x = ((0, s), none) := by simpa using hx
        exact ⟨.non, valV_pos (p := (knK (0, s), V.non)) rfl, rfl⟩
      · exact valV_neg (p := (knK (0, s), V.non)) (fun e => hp (by rw [← knK_inj e]; simp))
    clear hX
    refine ⟨_, rfl, one_ok, fun l0 hl0 => ?_⟩
    generalize hX : upd _ l0 _ = H9
    obtain ⟨s9, al0⟩ := fresh hl0 hX
    clear hX
    have s49 : Same H4 H9 := s47.trans s9
    have ha0 : ((0, s) : Kn) ∈ uniT (cnts ts) := uniT_mem.mpr ⟨Nat.zero_le _, hs⟩
    have hcl := nbT_uni (ts := ts) hbit
    generalize hnb : nbT (folOf ts) tl = nb at qn qs hcl
    have hul := uniT_len (cnts ts)
    have hun : ∀ p ∈ uniT (cnts ts), p.1 ≤ cnts ts ∧ p.2 ≤ 1 := fun p hp => uniT_mem.mp hp
    generalize uniT (cnts ts) = uni at ha0 hcl hul hun
    refine ⟨fun m σ H2 => ∃ (i : Nat) (ps : List Kn) (bl : List (Kn × Option Kn)) (l : Addr) (rs : List V) (v9 v10 v11 v12 : Option V), m = togo nb (0, s) uni i + (if ps = [] then 0 else 1) ∧ σ = [some v, some (.ref tp), some (.int (s : Int)), some (.int (b : Int)), some (.int (c : Int)), some (.ref r), some (.ref t0), some (.ref d), some (.ref l), v9, v10, v11, v12] ∧
        Same H4 H2 ∧ BefAt H2 d bl ∧ H2 l = some (.lst rs) ∧ KnsAt H2 ps rs ∧ Bfs nb (0, s) i bl ps ∧ (∀ j, j < i → ¬ AtD nb (0, s) j (b, c)) ∧ (ps ≠ [] → i + togo nb (0, s) uni i ≤ uni.length),
      ⟨_, 0, [(0, s)], [((0, s), none)], l0, [.ref t0], none, none, none, none, rfl, rfl, s49, b7.same s9, al0, KnsAt.one (s49 _ _ at0), Bfs.zero, fun j hj => absurd hj (Nat.not_lt_zero _), fun _ => by have := togo_zero (nb := nb) (a := (0, s)) uni 0; omega⟩, ?_⟩
    rintro m σ Ha ⟨i, ps, bl, l, rs, v9, v10, v11, v12, rfl, rfl, sa, hbef, hl, hkn, hbfs, hno, htg⟩
    refine ⟨_, rfl, Nat.zero_le _, fun n hn => ?_⟩
    generalize hX : upd _ n _ = Hb
    obtain ⟨sb, an⟩ := fresh hn hX
    clear hX
    have hlb := sb _ _ hl
    have kb := hkn.keep (Keep.of sb)
    refine ⟨.list (ps.map knD), .list [], .lst (SqL.of hlb) kb.dp, .lst (SqL.of an) .nil, shKns _, by decide +kernel, ?_⟩
    rw [ne_kns]
    refine ⟨_, rfl, ?_⟩
    cases hps : ps with
    | nil =>
      subst hps
      refine iteBF rfl ?_
      exact qn (AtD.none (fun p hp => by have := (hbfs.line p).mpr hp; cases this) hno) _ (s04.trans (sa.trans sb))
    | cons p0 ps0 =>
      rw [← hps]
      have hne : ps ≠ [] := by rw [hps]; exact List.cons_ne_nil _ _
      refine iteBT (by rw [hps]; rfl) ⟨_, fun σ' H' w => w, ?_⟩
      have b2 := hbef.same sb
      refine ⟨_, rfl, _, rfl, two_ok, fun t2 ht2 => ?_⟩
      generalize hX : upd _ t2 _ = Hc
      obtain ⟨sc, at2⟩ := fresh ht2 hX
      clear hX
      have b3 := b2.same sc
      obtain ⟨kvs, g1, g2, g3, g4⟩ := id b3
      refine ⟨_, rfl, d, _, rfl, DGet.t (k := knK (b, c)) g1 at2, ?_⟩
      by_cases hk : ((b, c) : Kn) ∈ bl.map (·.1)
      · obtain ⟨x, hx, hx1⟩ := List.mem_map.mp hk
        obtain ⟨u, g5, _⟩ := g3 x hx
        rw [hx1] at g5
        rw [g5]
        refine ⟨_, rfl, iteBT rfl ?_⟩
        obtain ⟨j, hj1, hj2⟩ := NearD.at ((hbfs.keys _).mp hk)
        obtain rfl : j = i := by
          rcases Nat.lt_or_ge j i with h | h
          · exact absurd hj2 (hno j h)
          · omega
        have hi := htg hne
        refine ⟨_, rfl, _, rfl, _, rfl, two_ok, fun t3 ht3 => ?_⟩
        generalize hX : upd _ t3 _ = Hd
        obtain ⟨sd, at3⟩ := fresh ht3 hX
        clear hX
        refine ⟨nb, (0, s), d, bl, j, ps, (b, c), j, _, rfl, ⟨t3, rfl, at3⟩, b3.same sd, hbfs, hj2, Nat.le_refl _, by omega, fun H' r' ks s' h' w1 w2 w3 w4 => ?_⟩
        exact qs j hj2 (by omega) H' r' ks (s04.trans (sa.trans (sb.trans (sc.trans (sd.trans s'))))) h' w1 w2 w3 w4
      · rw [g4 _ hk]
        refine ⟨_, rfl, iteBF rfl ?_⟩
        have hno2 : ∀ j, j < i + 1 → ¬ AtD nb (0, s) j (b, c) := fun j hj h => by
          rcases Nat.lt_or_ge j i with e | e
          · exact hno j e h
          · obtain rfl : j = i := by omega
            exact hk ((hbfs.keys _).mpr h.near)
        refine ⟨Nat.zero_le _, fun e he => ?_⟩
        generalize hX : upd _ e _ = Hd
        obtain ⟨sd, ae⟩ := fresh he hX
        clear hX
        have hlc := sc _ _ hlb
        have nle : l ≠ e := ne_of_none hlc he
        have nde : d ≠ e := ne_of_none g1 he
        have ndl : d ≠ l := ne_of g1 hlc (fun z => nomatch z)
        have s4d : Same H4 Hd := sa.trans (sb.trans (sc.trans sd))
        have e4 : H4 e = none := by
          cases h : H4 e with
          | none => rfl
          | some o => rw [(sa.trans (sb.trans sc)) _ _ h] at he; cases he
        refine ⟨_, rfl, l, rfl, ⟨_, SqL.of (sd _ _ hlc)⟩, ?_⟩
        refine for_list (K := K) (xs := rs) (fun j σ Hx => ∃ (bl2 : List (Kn × Option Kn)) (later : List Kn) (rs2 : List V) (v10 v11 v12 : Option V), σ = [some v, some (.ref tp), some (.int (s : Int)), some (.int (b : Int)), some (.int (c : Int)), some (.ref r), some (.ref t0), some (.ref d), some (.ref l), some (.ref e), v10, v11, v12] ∧
            Same H4 Hx ∧ BefAt Hx d bl2 ∧ Hx l = some (.lst rs) ∧ KnsAt Hx ps rs ∧ Hx e = some (.lst rs2) ∧ KnsAt Hx later rs2 ∧ Rnd nb (0, s) i ((ps.take j).flatMap nb) bl2 later)
          ⟨bl, [], [], v10, v11, v12, rfl, s4d, b3.same sd, sd _ _ hlc, kb.keep (Keep.of (sc.trans sd)), ae, KnsAt.nil, hbfs.round⟩ (fun j σ Hx hj ⟨_, _, _, _, _, _, _, _, _, h, _⟩ => SqL.of h) ?_ ?_
        · rintro j x σ Hx hx ⟨bl2, later, rs2, v10, v11, v12, rfl, sx, bx, hlx, kx, hex, kex, hrnd⟩
          obtain ⟨p, kb1, hp, rfl, hkb⟩ := kx.get hx
          have hpat : AtD nb (0, s) i p := (hbfs.line p).mp (List.mem_of_getElem? hp)
          have tx := t4.keep (Keep.of sx)
          have hrx := sx _ _ hr4
          obtain ⟨hpn, hp2⟩ := hun p (NearD.uni ha0 hcl hpat.near)
          obtain ⟨fl, hfl2⟩ : ∃ fl, (folOf ts ++ [[]])[p.1]? = some fl := ⟨_, List.getElem?_eq_getElem (by simp; omega)⟩
          have hnx0 : nexts (folOf ts) p.1 = fl := by
            unfold nexts
            rw [List.getD_eq_getElem?_getD, hfl2]
            rfl
          have hnx : nb p = fl.map fun x => (x, turn tl p.1 p.2) := by
            rw [← hnb]
            unfold nbT
            rw [hnx0]
          obtain ⟨pf, e1, e2⟩ := tx.get hfl2
          refine ⟨_, rfl, _, rfl, kb1, _, _, _, rfl, rfl, SqT.of hkb, atI_nat (j := 0) rfl, r, _, _, _, rfl, rfl, SqT.of hrx, atI_nat e1, pf, rfl, ⟨_, SqT.of e2⟩, ?_⟩
          refine for_tup (K := K) (xs := vN fl) (fun k σ Hy => ∃ (bl2 : List (Kn × Option Kn)) (later : List Kn) (rs2 : List V) (v11 v12 : Option V), σ = [some v, some (.ref tp), some (.int (s : Int)), some (.int (b : Int)), some (.int (c : Int)), some (.ref r), some (.ref t0), some (.ref d), some (.ref l), some (.ref e), some (.ref kb1), v11, v12] ∧
              Same H4 Hy ∧ BefAt Hy d bl2 ∧ Hy l = some (.lst rs) ∧ KnsAt Hy ps rs ∧ Hy e = some (.lst rs2) ∧ KnsAt Hy later rs2 ∧ Hy kb1 = some (knV p) ∧ Hy pf = some (.tup (vN fl)) ∧ Rnd nb (0, s) i ((ps.take j).flatMap nb ++ (fl.take k).map fun x => (x, turn tl p.1 p.2)) bl2 later)
            ⟨bl2, later, rs2, v11, v12, rfl, sx, bx, hlx, kx, hex, kex, hkb, e2, by simpa using hrnd⟩ (fun k σ Hy hk ⟨_, _, _, _, _, _, _, _, _, _, _, _, _, h, _⟩ => SqT.of h) ?_ ?_
          · rintro k y σ Hy hy ⟨bl2, later, rs2, v11, v12, rfl, sy, by2, hly, ky, hey, key, hkby, hpf, hrnd⟩
            obtain ⟨q, hq, rfl⟩ := vN_get hy
            have hpl : p.1 < cnts ts := by
              rcases Nat.lt_or_ge p.1 (cnts ts) with h | h
              · exact h
              · rw [nexts_end (by omega)] at hnx0
                rw [← hnx0] at hq
                cases hq
            obtain ⟨t, ht⟩ : ∃ t, tl[p.1]? = some t := ⟨_, List.getElem?_eq_getElem (by omega)⟩
            obtain ⟨tq, et, htq⟩ := (htk4.keep (Keep.of sy)).2 _ _ ht
            have etr := turn_at ht hp2
            have htk : (fl.take (k + 1)).map (fun x => ((x, turn tl p.1 p.2) : Kn)) = (fl.take k).map (fun x => (x, turn tl p.1 p.2)) ++ [(q, turn tl p.1 p.2)] := by
              rw [List.take_add_one, hq, List.map_append]
              rfl
            have hqn : ((q, turn tl p.1 p.2) : Kn) ∈ nb p := by
              rw [hnx]
              exact List.mem_map.mpr ⟨q, List.mem_of_getElem? hq, rfl⟩
            rw [htk, ← List.append_assoc]
            generalize hdn : (ps.take j).flatMap nb ++ (fl.take k).map (fun x => ((x, turn tl p.1 p.2) : Kn)) = done at hrnd
            generalize turn tl p.1 p.2 = u at etr hqn
            refine ⟨_, rfl, _, rfl, _, rfl, kb1, _, _, _, rfl, rfl, SqT.of hkby, atI_nat (j := 0) rfl, tp, _, _, _, rfl, rfl, SqL.of (sy _ _ htp4), atI_nat et, _, rfl, kb1, _, _, _, rfl, rfl, SqT.of hkby, atI_nat (j := 1) rfl, tq, _, _, _, rfl, rfl, SqT.of htq, etr, two_ok, fun t4 ht4 => ?_⟩
            generalize hX : upd _ t4 _ = Hz
            obtain ⟨sz, at4⟩ := fresh ht4 hX
            clear hX
            have bz := by2.same sz
            obtain ⟨kvs2, g1, g2, g3, g4⟩ := id bz
            refine ⟨_, rfl, _, rfl, d, _, rfl, DGet.t (k := knK (q, u)) g1 at4, ?_⟩
            by_cases hk2 : ((q, u) : Kn) ∈ bl2.map (·.1)
            · obtain ⟨x, hx, hx1⟩ := List.mem_map.mp hk2
              obtain ⟨u2, g5, _⟩ := g3 x hx
              rw [hx1] at g5
              rw [g5]
              refine ⟨_, rfl, iteBF rfl ?_⟩
              exact ⟨bl2, later, rs2, _, _, rfl, sy.trans sz, bz, sz _ _ hly, ky.keep (Keep.of sz), sz _ _ hey, key.keep (Keep.of sz), sz _ _ hkby, sz _ _ hpf, hrnd.skip hk2⟩
            · rw [g4 _ hk2]
              refine ⟨_, rfl, iteBT rfl ?_⟩
              have hlen := hrnd.len ha0 hcl
              refine ⟨_, rfl, _, rfl, _, rfl, d, _, rfl, DPut.t (k := knK (q, u)) g1 at4 (by omega), ?_⟩
              have kd : Keep Hz (upd Hz d (.dT (putK kvs2 (knK (q, u)) (.ref kb1)))) := Keep.upd g1 (fun h => h)
              have bw := BefAt.add g1 g2 g3 g4 hk2 (show KnO Hz (some p) (.ref kb1) from ⟨kb1, rfl, sz _ _ hkby⟩)
              generalize hX : upd Hz d _ = Hw at bw kd
              have s4w : Same H4 Hw := by rw [← hX]; exact same_updT (sy.trans sz) hd4
              have hlw : Hw l = some (.lst rs) := by rw [← hX, upd_ne (Ne.symm ndl)]; exact sz _ _ hly
              have hew : Hw e = some (.lst rs2) := by rw [← hX, upd_ne (Ne.symm nde)]; exact sz _ _ hey
              clear hX
              have kyw : Keep Hy Hw := (Keep.of sz).trans kd
              have kel := key.1
              have hsh := hrnd.short
              refine ⟨_, rfl, .inl ⟨rfl, _, SqL.of hew⟩, _, rfl, e, _, _, rfl, rfl, hew, by omega, ?_⟩
              have ke : Keep Hw (upd Hw e (.lst (rs2 ++ [.ref t4]))) := Keep.upd hew (fun h => h)
              have kyy : Keep Hy (upd Hw e (.lst (rs2 ++ [.ref t4]))) := kyw.trans ke
              refine ⟨bl2 ++ [((q, u), some p)], later ++ [(q, u)], rs2 ++ [.ref t4], _, _, rfl, same_updT s4w e4, bw.keep ke (upd_ne nde), by rw [upd_ne nle]; exact hlw, ky.keep kyy, upd_same, (key.keep kyy).snoc (ke _ _ (kd _ _ at4 trivial) trivial), kyy _ _ hkby trivial, kyy _ _ hpf trivial, hrnd.add hk2 hpat hqn⟩
          · rintro σ Hy ⟨bl2, later, rs2, v11, v12, rfl, sy, by2, hly, ky, hey, key, hkby, hpf, hrnd⟩
            refine ⟨bl2, later, rs2, _, _, _, rfl, sy, by2, hly, ky, hey, key, ?_⟩
            rw [vN_len, List.take_length, ← hnx] at hrnd
            rw [List.take_add_one, hp, List.flatMap_append]
            simpa using hrnd
        · rintro σ Hx ⟨bl2, later, rs2, v10, v11, v12, rfl, sx, bx, hlx, kx, hex, kex, hrnd⟩
          rw [hkn.1, List.take_length] at hrnd
          have hb2 := hrnd.finish hbfs.line
          have hle := togo_le (nb := nb) (a := (0, s)) uni i
          have hi := htg hne
          have hlt : later ≠ [] → togo nb (0, s) uni (i + 1) < togo nb (0, s) uni i := fun hl => by
            obtain ⟨p, hp⟩ := List.exists_mem_of_ne_nil _ hl
            have hat := (hb2.line p).mp hp
            exact togo_lt (NearD.uni ha0 hcl hat.near) hat
          refine ⟨_, rfl, _, ?_, i + 1, later, bl2, e, rs2, _, _, _, _, rfl, rfl, sx, bx, hex, kex, hb2, hno2, fun hl => by have := hlt hl; omega⟩
          rw [if_neg hne]
          by_cases hl : later = []
          · rw [if_pos hl]
            omega
          · rw [if_neg hl]
            have := hlt hl
            omega
end
/-! ### readings, step by step: a word for each reading, and the tactic that applies them -/
/-- a new object -/
structure New (p : Addr) (o : HO) (H H' : Hp) : Prop where
  free : H p = none
  at_ : H' p = some o
  same : Same H H'
/-- one object changed -/
structure Chg (p : Addr) (o o' : HO) (H H' : Hp) : Prop where
  was : H p = some o
  at_ : H' p = some o'
  but : SameBut p H H'
def kd : HO → Nat
  | .lst _ => 0
  | .tup _ => 1
  | .dK _ => 2
  | .dT _ => 3
  | .ins _ _ _ => 4
  | _ => 9
section
variable {H H' H'' : Hp} {p q : Addr} {o u a b : HO}
theorem New.mk' (h : H p = none) : New p o H (upd H p o) := ⟨h, upd_same, same_upd h⟩
theorem Chg.mk' (h : H p = some o) : Chg p o u H (upd H p u) := ⟨h, upd_same, fun b x e n => by rw [upd_ne n]; exact e⟩
theorem New.get (n : New q u H H') (h : H p = some o) : H' p = some o := n.same _ _ h
theorem sameGet (n : Same H H') (h : H p = some o) : H' p = some o := n _ _ h
theorem Chg.get (c : Chg q a b H H') (h : H p = some o) (ne : p ≠ q) : H' p = some o := c.but _ _ h ne
theorem Chg.getK (c : Chg q a b H H') (h : H p = some o) (ne : (kd o == kd a) = false) : H' p = some o := c.but _ _ h (ne_of h c.was fun z => by
  subst z
  rw [beq_self_eq_true] at ne
  cases ne)
theorem keepGet (k : Keep H H') (h : H p = some o) (s : still o) : H' p = some o := k _ _ h s
theorem New.ne (n : New p o H H') (h : H q = some u) : p ≠ q := (ne_of_none h n.free).symm
theorem New.keep (n : New q u H H') : Keep H H' := Keep.of n.same
theorem Chg.keep (c : Chg q a b H H') (s : ¬ still a) : Keep H H' := fun x y e st => c.but x y e (fun z => by
  subst z
  have := c.was.symm.trans e
  cases this
  exact s st)
theorem Chg.keepL {xs : List V} (c : Chg q (.lst xs) b H H') : Keep H H' := c.keep (fun h => h)
theorem Chg.keepD {xs : List (L2.Key × V)} (c : Chg q (.dK xs) b H H') : Keep H H' := c.keep (fun h => h)
theorem Chg.keepE {xs : List (List L2.Key × V)} (c : Chg q (.dT xs) b H H') : Keep H H' := c.keep (fun h => h)
theorem keepStep (k : Keep H' H'') (l : Keep H H') : Keep H H'' := l.trans k
theorem sameStep (k : Same H' H'') (l : Same H H') : Same H H'' := l.trans k
/-- an object of one's own was changed: seen from ahead of its making nothing is -/
theorem Chg.sameOwn (c : Chg q a b H' H'') (l : Same H H') (f : H q = none) : Same H H'' := fun x y e => c.but _ _ (l _ _ e) (ne_of_none e f)
theorem butStep (k : Same H' H'') (l : SameBut p H H') : SameBut p H H'' := fun x y e n => k _ _ (l _ _ e n)
theorem Chg.butStep (c : Chg p a b H' H'') (l : SameBut p H H') : SameBut p H H'' := fun x y e n => c.but _ _ (l _ _ e n) n
theorem freeBack (s : Same H H') (h : H' p = none) : H p = none := s.free h
end
section
variable {K : PySem.W.Frag} {σ σ' : St} {H : Hp} {Q : VK}
theorem w_seq {t u : TS} {D : Ends} (h : t { D with nx := u D } σ H) : tSeq t u D σ H := h
theorem w_next {D : Ends} (h : D.nx σ H) : tNext D σ H := h
theorem w_nx {nx : St → Hp → Prop} {rt : V → Hp → Prop} {bk ct : St → Hp → Prop} (h : nx σ H) : Ends.nx ⟨nx, rt, bk, ct⟩ σ H := h
theorem w_rt {nx : St → Hp → Prop} {rt : V → Hp → Prop} {bk ct : St → Hp → Prop} {v : V} (h : rt v H) : Ends.rt ⟨nx, rt, bk, ct⟩ v H := h
theorem w_bk {nx : St → Hp → Prop} {rt : V → Hp → Prop} {bk ct : St → Hp → Prop} (h : bk σ H) : Ends.bk ⟨nx, rt, bk, ct⟩ σ H := h
theorem w_ct {nx : St → Hp → Prop} {rt : V → Hp → Prop} {bk ct : St → Hp → Prop} (h : ct σ H) : Ends.ct ⟨nx, rt, bk, ct⟩ σ H := h
theorem w_break {D : Ends} (h : D.bk σ H) : tBreak D σ H := h
theorem w_cont {D : Ends} (h : D.ct σ H) : tCont D σ H := h
theorem w_drop {te : TE} {D : Ends} (h : te σ H fun _ H1 => D.nx σ H1) : tDrop te D σ H := h
theorem w_ret {te : TE} {D : Ends} (h : te σ H D.rt) : tRet te D σ H := h
theorem w_retN {D : Ends} (h : D.rt .non H) : tRetN D σ H := h
theorem w_ifS {c : TT} {t u : TS} {D : Ends} (h : c σ H fun b H1 => if b = true then t D σ H1 else u D σ H1) : tIfS c t u D σ H := h
theorem w_if {c : TT} {t u : TE} (h : c σ H fun b H1 => if b = true then t σ H1 Q else u σ H1 Q) : tIf c t u σ H Q := h
theorem w_asg {te : TE} {g : TG} {D : Ends} (h : te σ H fun x H1 => g x σ H1 D.nx) : tAsg te g D σ H := h
theorem w_name {i : Nat} {v : V} {Q : St → Hp → Prop} (h : ∀ σ', σ.set i (some v) = σ' → Q σ' H) : gName i v σ H Q := h _ rfl
theorem w_var {i : Nat} {v : V} (e : σ[i]? = some (some v)) (h : Q v H) : tVar i σ H Q := ⟨v, e, h⟩
theorem w_C {v : V} (h : Q v H) : tC v σ H Q := h
theorem w_op {r : R2} {ta tb : TE} (h : ta σ H fun x H1 => tb σ H1 fun y H2 => r x y H2 Q) : tOp r ta tb σ H Q := h
theorem w_un {r : V → Hp → VK → Prop} {ta : TE} (h : ta σ H fun x H1 => r x H1 Q) : tUn r ta σ H Q := h
theorem w_rI0 {g : Int → Int → V} {i j : Int} (h : Q (g i j) H) : rI0 g (.int i) (.int j) H Q := ⟨i, j, rfl, rfl, h⟩
theorem w_rI {C : Int → Int → Prop} {g : Int → Int → V} {i j : Int} (c : C i j) (h : Q (g i j) H) : rI C g (.int i) (.int j) H Q := ⟨i, j, rfl, rfl, c, h⟩
theorem w_rU {g : Int → V} {i : Int} (h : Q (g i) H) : rU g (.int i) H Q := ⟨i, rfl, h⟩
theorem dec_vi {i j : Int} : decide (V.int i = V.int j) = decide (i = j) := by simp
theorem dec_vs {i j : Str} : decide (V.str i = V.str j) = decide (i = j) := by simp
theorem w_rEqI {i j : Int} (h : Q (.bl (decide (i = j))) H) : rEq (.int i) (.int j) H Q := ⟨rfl, by rw [dec_vi]; exact h⟩
theorem w_rNeI {i j : Int} (h : Q (.bl (!decide (i = j))) H) : rNe (.int i) (.int j) H Q := ⟨rfl, by rw [dec_vi]; exact h⟩
theorem w_rEqS {i j : Str} (h : Q (.bl (decide (i = j))) H) : rEq (.str i) (.str j) H Q := ⟨rfl, by rw [dec_vs]; exact h⟩
theorem w_rNeS {i j : Str} (h : Q (.bl (!decide (i = j))) H) : rNe (.str i) (.str j) H Q := ⟨rfl, by rw [dec_vs]; exact h⟩
theorem w_tB {t : TE} {Q : Bool → Hp → Prop} (h : t σ H fun x H1 => ∃ c, x = .bl c ∧ Q c H1) : tB t σ H Q := h
theorem w_test {t : TE} {Q : Bool → Hp → Prop} (h : t σ H fun x H1 => ∃ c, x = .bl c ∧ Q c H1) : tTest t σ H Q := h
theorem w_bl {b : Bool} {Q : Bool → Hp → Prop} (h : Q b H) : ∃ c, V.bl b = .bl c ∧ Q c H := ⟨b, rfl, h⟩
theorem w_blB {b : Bool} {P : Bool → Prop} (h : P b) : ∃ c, V.bl b = .bl c ∧ P c := ⟨b, rfl, h⟩
theorem w_and {t u : TT} {Q : Bool → Hp → Prop} (h : t σ H fun c H1 => if c = true then u σ H1 Q else Q false H1) : tAnd t u σ H Q := h
theorem w_or {t u : TT} {Q : Bool → Hp → Prop} (h : t σ H fun c H1 => if c = true then Q true H1 else u σ H1 Q) : tOr t u σ H Q := h
theorem w_not {t : TT} {Q : Bool → Hp → Prop} (h : t σ H fun c H1 => Q (!c) H1) : tNot t σ H Q := h
theorem w_andV {ta tb : TE} (h : ta σ H fun x H1 => ∃ c, x = .bl c ∧ if c = true then tb σ H1 Q else Q (.bl false) H1) : tAndV ta tb σ H Q := h
theorem w_orV {ta tb : TE} (h : ta σ H fun x H1 => ∃ c, x = .bl c ∧ if c = true then Q (.bl true) H1 else tb σ H1 Q) : tOrV ta tb σ H Q := h
theorem w_notV {ta : TE} (h : ta σ H fun x H1 => ∃ c, x = .bl c ∧ Q (.bl (!c)) H1) : tNotV ta σ H Q := h
theorem w_isN {ta : TE} (h : ta σ H fun x H1 => Q (.bl (decide (x = .non))) H1) : tIsN ta σ H Q := h
theorem w_notN {ta : TE} (h : ta σ H fun x H1 => Q (.bl (!decide (x = .non))) H1) : tNotN ta σ H Q := h
theorem w_nil {Q : List V → Hp → Prop} (h : Q [] H) : tNil σ H Q := h
theorem w_cons {ta : TE} {tr : TA} {Q : List V → Hp → Prop} (h : ta σ H fun x H1 => tr σ H1 fun xs H2 => Q (x :: xs) H2) : tCons ta tr σ H Q := h
theorem w_cb {r : List V → Hp → VK → Prop} {t : TA} (h : t σ H fun vs H1 => r vs H1 Q) : tCB r t σ H Q := h
theorem w_call {sp : Sp} {dvs : List V} {E : XK} {t : TA} (h : t σ H fun vs H1 => sp (vs ++ dvs) H1 Q E) : tCall sp dvs E t σ H Q := h
def kNew (f : List V → HO) (xs : List V) (H : Hp) (Q : VK) : Prop := xs.length ≤ sizeLine ∧ ∀ p, H p = none → Q (.ref p) (upd H p (f xs))
theorem w_tup {t : TA} (h : t σ H fun xs H1 => kNew .tup xs H1 Q) : tTup t σ H Q := h
theorem w_lst {t : TA} (h : t σ H fun xs H1 => kNew .lst xs H1 Q) : tLst t σ H Q := h
theorem w_newT {xs : List V} (hl : xs.length ≤ sizeLine) (h : ∀ p H', New p (.tup xs) H H' → Q (.ref p) H') : kNew .tup xs H Q := ⟨hl, fun p hp => h p _ (New.mk' hp)⟩
theorem w_newL {xs : List V} (hl : xs.length ≤ sizeLine) (h : ∀ p H', New p (.lst xs) H H' → Q (.ref p) H') : kNew .lst xs H Q := ⟨hl, fun p hp => h p _ (New.mk' hp)⟩
theorem w_ixT {p : Addr} {xs : List V} {i : Int} {v : V} (a : H p = some (.tup xs)) (e : atI xs i = some v) (h : Q v H) : rIxT K (.ref p) (.int i) H Q := ⟨p, xs, i, v, rfl, rfl, SqT.of a, e, h⟩
theorem w_ixL {p : Addr} {xs : List V} {i : Int} {v : V} (a : H p = some (.lst xs)) (e : atI xs i = some v) (h : Q v H) : rIxL K (.ref p) (.int i) H Q := ⟨p, xs, i, v, rfl, rfl, SqL.of a, e, h⟩
theorem w_lenL {p : Addr} {xs : List V} {P : List V → Prop} (a : H p = some (.lst xs)) (h : P xs) : ∃ p' ys, [V.ref p] = [.ref p'] ∧ (SqL K H p' ys ∨ SqT K H p' ys) ∧ P ys := ⟨p, xs, rfl, .inl (SqL.of a), h⟩
theorem w_lenT {p : Addr} {xs : List V} {P : List V → Prop} (a : H p = some (.tup xs)) (h : P xs) : ∃ p' ys, [V.ref p] = [.ref p'] ∧ (SqL K H p' ys ∨ SqT K H p' ys) ∧ P ys := ⟨p, xs, rfl, .inr (SqT.of a), h⟩
theorem w_bm {T : String} {r : V → List V → Hp → VK → Prop} {to : TE} {t : TA} (h : to σ H fun x H1 => tyV K T x H1 ∧ t σ H1 fun xs H2 => r x xs H2 Q) : tBM K T r to t σ H Q := h
theorem w_bm0 {T : String} {r : V → List V → Hp → VK → Prop} {to : TE} (h : to σ H fun x H1 => tyV K T x H1 ∧ r x [] H1 Q) : tBM0 K T r to σ H Q := h
theorem w_tyL {p : Addr} {xs : List V} {B : Prop} (a : H p = some (.lst xs)) (h : B) : tyV K "list" (.ref p) H ∧ B := ⟨.inl ⟨rfl, _, SqL.of a⟩, h⟩
theorem w_append {l : Addr} {xs : List V} {y : V} (a : H l = some (.lst xs)) (sz : xs.length < sizeLine) (h : ∀ H', Chg l (.lst xs) (.lst (xs ++ [y])) H H' → Q .non H') : rAppend (.ref l) [y] H Q := ⟨l, xs, y, rfl, rfl, a, sz, h _ (Chg.mk' a)⟩
theorem w_setL {l : Addr} {xs : List V} {k : Int} {j : Nat} {v : V} {Q : Hp → Prop} (a : H l = some (.lst xs)) (e : ixN xs.length k = some j) (h : ∀ H', Chg l (.lst xs) (.lst (xs.set j v)) H H' → Q H') : rSetL (.ref l) (.int k) v H Q := ⟨l, xs, k, j, rfl, rfl, a, e, h _ (Chg.mk' a)⟩
theorem w_fld {ta : TE} {f : Str} (h : ta σ H fun x H1 => ∃ a C dx fs v, x = .ref a ∧ H1 a = some (.ins C dx fs) ∧ Cls K C ∧ NoAttr K C f ∧ fs.lookup f = some v ∧ Q v H1) : tFld K ta f σ H Q := h
theorem w_fld1 {a C dx : Addr} {fs : List (Str × V)} {v : V} {f : Str} (i : H a = some (.ins C dx fs)) (c : Cls K C) (n : NoAttr K C f) (l : fs.lookup f = some v) (h : Q v H) : ∃ a' C' dx' fs' v', V.ref a = .ref a' ∧ H a' = some (.ins C' dx' fs') ∧ Cls K C' ∧ NoAttr K C' f ∧ fs'.lookup f = some v' ∧ Q v' H := ⟨a, C, dx, fs, v, rfl, i, c, n, l, h⟩
theorem w_par {i j : Nat} {ta : TA} {D : Ends} (h : ta σ H fun vs H1 => ∃ v w, vs = [v, w] ∧ D.nx ((σ.set i (some v)).set j (some w)) H1) : tPar i j ta D σ H := h
theorem w_par1 {v w : V} {P : V → V → Prop} (h : P v w) : ∃ v' w', [v, w] = [v', w'] ∧ P v' w' := ⟨v, w, rfl, h⟩
theorem w_aug {i : Nat} {x : V} {te : TE} {ti : TIp} {D : Ends} (e : σ[i]? = some (some x)) (h : te σ H fun y H1 => ti x y H1 fun z H2 => D.nx (σ.set i (some z)) H2) : tAug i te ti D σ H := ⟨x, e, h⟩
theorem w_forT {a : Addr} {xs : List V} {P : Addr → Prop} (t : H a = some (.tup xs)) (h : P a) : ∃ a', V.ref a = .ref a' ∧ (∃ xs, SqT K H a' xs) ∧ P a' := ⟨a, rfl, ⟨xs, SqT.of t⟩, h⟩
theorem w_forL {a : Addr} {xs : List V} {P : Addr → Prop} (t : H a = some (.lst xs)) (h : P a) : ∃ a', V.ref a = .ref a' ∧ (∃ xs, SqL K H a' xs) ∧ P a' := ⟨a, rfl, ⟨xs, SqL.of t⟩, h⟩
theorem w_inT {x : V} {p : Addr} {xs : List V} (a : H p = some (.tup xs)) (f : flatV x = true) (g : xs.all flatV = true) (h : Q (.bl (inV x xs)) H) : rIn K false x (.ref p) H Q := ⟨p, xs, rfl, .inr (SqT.of a), f, g, h⟩
theorem w_inL {x : V} {p : Addr} {xs : List V} (a : H p = some (.lst xs)) (f : flatV x = true) (g : xs.all flatV = true) (h : Q (.bl (inV x xs)) H) : rIn K false x (.ref p) H Q := ⟨p, xs, rfl, .inl (SqL.of a), f, g, h⟩
theorem w_iTup {tl : TE} {R : It → Hp → Prop} (h : tl σ H fun x H1 => ∃ a, x = .ref a ∧ (∃ xs, SqT K H1 a xs) ∧ R (Itt K a) H1) : iTup K tl σ H R := h
theorem w_iList {tl : TE} {R : It → Hp → Prop} (h : tl σ H fun x H1 => ∃ a, x = .ref a ∧ (∃ xs, SqL K H1 a xs) ∧ R (Itl K a) H1) : iList K tl σ H R := h
end
/-- a loop over what is walked -/
def kFor (J : It) (g : TG) (tb : TS) (D : Ends) (σ : St) (H : Hp) : Prop := tFor (fun _ H1 R => R J H1) g tb D σ H
theorem w_for {wi : TI} {g : TG} {tb : TS} {D : Ends} {σ : St} {H : Hp} (h : wi σ H fun J H1 => kFor J g tb D σ H1) : tFor wi g tb D σ H := h
section
variable {K : PySem.W.Frag} {a : Addr} {xs : List V} {g : TG} {tb : TS} {D : Ends} {σ : St} {H : Hp}
theorem k_forT (xs : List V) (Pv : Nat → St → Hp → Prop) (h0 : Pv 0 σ H) (hl : ∀ i σ H, i ≤ xs.length → Pv i σ H → SqT K H a xs)
    (hs : ∀ i x σ H, xs[i]? = some x → Pv i σ H → g x σ H fun σ2 H2 => tb { D with nx := Pv (i + 1), ct := Pv (i + 1), bk := D.nx } σ2 H2) (hd : ∀ σ H, Pv xs.length σ H → D.nx σ H) : kFor (Itt K a) g tb D σ H := for_tup Pv h0 hl hs hd
theorem k_forL (xs : List V) (Pv : Nat → St → Hp → Prop) (h0 : Pv 0 σ H) (hl : ∀ i σ H, i ≤ xs.length → Pv i σ H → SqL K H a xs)
    (hs : ∀ i x σ H, xs[i]? = some x → Pv i σ H → g x σ H fun σ2 H2 => tb { D with nx := Pv (i + 1), ct := Pv (i + 1), bk := D.nx } σ2 H2) (hd : ∀ σ H, Pv xs.length σ H → D.nx σ H) : kFor (Itl K a) g tb D σ H := for_list Pv h0 hl hs hd
theorem k_forR {lo : Int} {n : Nat} (Pv : Nat → St → Hp → Prop) (h0 : Pv 0 σ H)
    (hs : ∀ i σ H, i < n → Pv i σ H → g (.int (lo + i)) σ H fun σ2 H2 => tb { D with nx := Pv (i + 1), ct := Pv (i + 1), bk := D.nx } σ2 H2) (hd : ∀ σ H, Pv n σ H → D.nx σ H) : kFor (Itr lo n) g tb D σ H := for_range Pv h0 hs hd
end
section
variable {K : PySem.W.Frag} {σ σ' : St} {H : Hp} {Q : VK}
theorem pg_tupK {X : Cx} {es : List Expr} {k : Nat} {t : TGs} {n : Nat} {pos : Pos} (hK : X.K = K) (hc : X.calm = true) (h : PGs X es t)
    (hn : (assignEach es X.env).length = n := by rfl) (hst : (assignEach es X.env).findIdx? (·.1) = none := by rfl) : PG X (.Tuple es k pos) (gTup K n t) := by
  subst hK
  exact pg_tup hc h hn hst
theorem w_gTup {n : Nat} {t : TGs} {p : Addr} {xs : List V} {Q : St → Hp → Prop} (a : H p = some (.tup xs)) (e : xs.length = n) (h : t xs σ H Q) : gTup K n t (.ref p) σ H Q := ⟨p, xs, rfl, SqT.of a, e, h⟩
theorem w_gCons {t : TG} {u : TGs} {v : V} {r : List V} {Q : St → Hp → Prop} (h : t v σ H fun σ' H' => u r σ' H' Q) : gCons t u (v :: r) σ H Q := ⟨v, r, rfl, h⟩
theorem w_gNil {Q : St → Hp → Prop} (h : Q σ H) : gNil [] σ H Q := ⟨rfl, h⟩
/-- a list made of what is walked -/
def kLc (J : It) (g : TG) (tt : TT) (te : TE) (vs : List Nat) (σ : St) (H : Hp) (Q : VK) : Prop := tLc (fun _ H1 R => R J H1) g tt te vs σ H Q
theorem w_lc {wi : TI} {g : TG} {tt : TT} {te : TE} {vs : List Nat} (h : wi σ H fun J H1 => kLc J g tt te vs σ H1 Q) : tLc wi g tt te vs σ H Q := h
/-- the item that is made goes to the list -/
def kAcc (D : Addr) (y : V) (H : Hp) (P : Hp → Prop) : Prop := ∃ acc, H D = some (.lst acc) ∧ acc.length < sizeLine ∧ P (upd H D (.lst (acc ++ [y])))
theorem w_acc {D : Addr} {y : V} {P : Hp → Prop} {acc : List V} (a : H D = some (.lst acc)) (sz : acc.length < sizeLine) (h : ∀ H', Chg D (.lst acc) (.lst (acc ++ [y])) H H' → P H') : kAcc D y H P := ⟨acc, a, sz, h _ (Chg.mk' a)⟩
abbrev kTurn (g : TG) (tt : TT) (te : TE) (vs : List Nat) (σ : St) (D : Addr) (x : V) (H : Hp) (P : Hp → Prop) : Prop :=
  g x (wipe σ vs) H fun σ2 H2 => wipe σ2 vs = wipe σ vs ∧ tt σ2 H2 fun b H3 => if b = true then te σ2 H3 fun y H4 => kAcc D y H4 P else P H3
theorem k_lcR {lo : Int} {n : Nat} {g : TG} {tt : TT} {te : TE} {vs : List Nat} (Pv : Addr → Nat → Hp → Prop) (h0 : ∀ D H', New D (.lst []) H H' → Pv D 0 H')
    (hs : ∀ D, H D = none → ∀ i H2, i < n → Pv D i H2 → kTurn g tt te vs σ D (.int (lo + i)) H2 (Pv D (i + 1))) (hd : ∀ D, H D = none → ∀ H2, Pv D n H2 → Q (.ref D) H2) : kLc (Itr lo n) g tt te vs σ H Q :=
  fun D hD => lc_range (Pv D) (h0 D _ (New.mk' hD)) (hs D hD) (hd D hD)
theorem k_lcL {a : Addr} (xs : List V) {g : TG} {tt : TT} {te : TE} {vs : List Nat} (Pv : Addr → Nat → Hp → Prop) (h0 : ∀ D H', New D (.lst []) H H' → Pv D 0 H') (hl : ∀ D i H, i ≤ xs.length → Pv D i H → SqL K H a xs)
    (hs : ∀ D, H D = none → ∀ i x H2, xs[i]? = some x → Pv D i H2 → kTurn g tt te vs σ D x H2 (Pv D (i + 1))) (hd : ∀ D, H D = none → ∀ H2, Pv D xs.length H2 → Q (.ref D) H2) : kLc (Itl K a) g tt te vs σ H Q :=
  fun D hD => lc_list (Pv D) (h0 D _ (New.mk' hD)) (hl D) (hs D hD) (hd D hD)
theorem k_lcT {a : Addr} (xs : List V) {g : TG} {tt : TT} {te : TE} {vs : List Nat} (Pv : Addr → Nat → Hp → Prop) (h0 : ∀ D H', New D (.lst []) H H' → Pv D 0 H') (hl : ∀ D i H, i ≤ xs.length → Pv D i H → SqT K H a xs)
    (hs : ∀ D, H D = none → ∀ i x H2, xs[i]? = some x → Pv D i H2 → kTurn g tt te vs σ D x H2 (Pv D (i + 1))) (hd : ∀ D, H D = none → ∀ H2, Pv D xs.length H2 → Q (.ref D) H2) : kLc (Itt K a) g tt te vs σ H Q :=
  fun D hD => lc_tup (Pv D) (h0 D _ (New.mk' hD)) (hl D) (hs D hD) (hd D hD)
theorem w_wipe {a b : St} {vs : List Nat} {B : Prop} (e : wipe a vs = wipe b vs) (h : B) : wipe a vs = wipe b vs ∧ B := ⟨e, h⟩
theorem w_yes {Q : Bool → Hp → Prop} (h : Q true H) : tYes σ H Q := h
theorem w_rng1 {ta : TA} {R : It → Hp → Prop} (h : ta σ H fun vs H1 => ∃ j : Int, vs = [.int j] ∧ -(2 ^ 62) ≤ j ∧ j < 2 ^ 62 ∧ R (Itr 0 j.toNat) H1) : iRng1 ta σ H R := h
theorem w_rng2 {ta : TA} {R : It → Hp → Prop} (h : ta σ H fun vs H1 => ∃ i j : Int, vs = [.int i, .int j] ∧ (-(2 ^ 62) ≤ i ∧ i < 2 ^ 62 ∧ -(2 ^ 62) ≤ j ∧ j < 2 ^ 62) ∧ R (Itr i (j - i).toNat) H1) : iRng2 ta σ H R := h
theorem w_rng1a {a : Int} {P : Int → Prop} (h1 : -(2 ^ 62) ≤ a) (h2 : a < 2 ^ 62) (h : P a) : ∃ j : Int, [V.int a] = [.int j] ∧ -(2 ^ 62) ≤ j ∧ j < 2 ^ 62 ∧ P j := ⟨a, rfl, h1, h2, h⟩
theorem w_rng2a {a b : Int} {P : Int → Int → Prop} (h1 : -(2 ^ 62) ≤ a) (h2 : a < 2 ^ 62) (h3 : -(2 ^ 62) ≤ b) (h4 : b < 2 ^ 62) (h : P a b) : ∃ i j : Int, [V.int a, V.int b] = [.int i, .int j] ∧ (-(2 ^ 62) ≤ i ∧ i < 2 ^ 62 ∧ -(2 ^ 62) ≤ j ∧ j < 2 ^ 62) ∧ P i j := ⟨a, b, rfl, ⟨h1, h2, h3, h4⟩, h⟩
theorem w_cat {l b : Addr} {xs zs : List V} (h1 : H l = some (.lst xs)) (h2 : H b = some (.lst zs)) (sz : xs.length + zs.length ≤ sizeLine) (h : ∀ p H', New p (.lst (xs ++ zs)) H H' → Q (.ref p) H') : rCat (.ref l) (.ref b) H Q := ⟨l, b, xs, zs, rfl, rfl, h1, h2, sz, fun p hp => h p _ (New.mk' hp)⟩
theorem w_rep {l : Addr} {xs : List V} {k : Int} (h1 : H l = some (.lst xs)) (ha : -(2 ^ 63) ≤ k) (hb : k < 2 ^ 63) (sz : xs.length * k.toNat ≤ sizeLine) (h : ∀ p H', New p (.lst (List.replicate k.toNat xs).flatten) H H' → Q (.ref p) H') : rRep (.ref l) (.int k) H Q := ⟨l, k, xs, rfl, rfl, h1, ha, hb, sz, fun p hp => h p _ (New.mk' hp)⟩
end
local macro_rules | `(tactic| walk_at "ne") => `(tactic| first
  | assumption
  | exact Ne.symm (by assumption)
  | exact New.ne (by assumption) (by walk_at "look")
  | exact Ne.symm (New.ne (by assumption) (by walk_at "look")))
local macro_rules | `(tactic| walk_at "look") => `(tactic| first
  | assumption
  | exact New.at_ (by assumption)
  | exact Chg.at_ (by assumption)
  | exact New.get (by assumption) (by walk_at "look")
  | exact Chg.getK (by assumption) (by walk_at "look") (by exact rfl)
  | exact Chg.get (by assumption) (by walk_at "look") (by walk_at "ne")
  | exact sameGet (by assumption) (by walk_at "look")
  | exact keepGet (by assumption) (by walk_at "look") trivial)
local macro_rules | `(tactic| walk_at "kp") => `(tactic| first
  | exact fun _ _ h _ => h
  | assumption
  | exact Keep.of (by assumption)
  | exact keepStep (New.keep (by assumption)) (by walk_at "kp")
  | exact keepStep (Chg.keepL (by assumption)) (by walk_at "kp")
  | exact keepStep (Chg.keepD (by assumption)) (by walk_at "kp")
  | exact keepStep (Chg.keepE (by assumption)) (by walk_at "kp")
  | exact keepStep (Keep.of (by assumption)) (by walk_at "kp")
  | exact keepStep (by assumption) (by walk_at "kp"))
local macro_rules | `(tactic| walk_at "sm") => `(tactic| first
  | exact Same.refl _
  | assumption
  | exact sameStep (New.same (by assumption)) (by walk_at "sm")
  | exact Chg.sameOwn (by assumption) (by walk_at "sm") (by walk_at "fr")
  | exact sameStep (by assumption) (by walk_at "sm"))
local macro_rules | `(tactic| walk_at "fr") => `(tactic| first
  | assumption
  | exact New.free (by assumption)
  | exact freeBack (by walk_at "sm") (New.free (by assumption)))
local macro_rules | `(tactic| walk_at "ci") => `(tactic| first | decide | exact ⟨by decide, by decide⟩ | assumption | omega)
local macro_rules | `(tactic| walk_at "sz") => `(tactic| (have hzz := sizeLine_eq; (try simp only [List.length_append, List.length_cons, List.length_nil, List.length_map]); (first | done | omega)))
local macro_rules | `(tactic| walk_at "at") => `(tactic| first | assumption | exact rfl | exact atI_nat (by assumption))
local macro_rules | `(tactic| walk_at "sy1") => `(tactic| first
  | with_reducible refine w_seq ?_
  | with_reducible refine w_asg ?_
  | ((with_reducible apply w_var); (· exact rfl))
  | with_reducible refine w_C ?_
  | ((with_reducible refine w_name ?_); intro σ' e; (first | dsimp only [List.set] at e | dsimp only [L2.start, L2.wipe, List.map, List.length_cons, List.length_nil, Nat.reduceAdd, Nat.reduceSub, List.replicate, List.cons_append, List.nil_append, List.append, List.set] at e); subst e)
  | with_reducible refine w_nx ?_
  | with_reducible refine w_cons ?_
  | with_reducible refine w_nil ?_
  | with_reducible refine w_op ?_
  | with_reducible refine w_rI0 ?_
  | ((with_reducible apply w_rI); (· walk_at "ci"))
  | with_reducible refine w_call ?_
  | with_reducible refine w_ifS ?_
  | with_reducible refine w_tup ?_
  | with_reducible refine w_lst ?_
  | ((with_reducible apply w_newT); (· walk_at "sz"); intro p H' n)
  | ((with_reducible apply w_newL); (· walk_at "sz"); intro p H' n)
  | with_reducible refine w_test ?_
  | with_reducible refine w_tB ?_
  | with_reducible refine w_rEqI ?_
  | with_reducible refine w_rEqS ?_
  | with_reducible refine w_rNeI ?_
  | with_reducible refine w_rNeS ?_
  | with_reducible refine w_blB ?_
  | with_reducible refine iteDT rfl ?_
  | ((with_reducible apply iteDT); (· (first | omega | assumption)))
  | ((with_reducible apply iteDF); (· (first | omega | assumption | exact (fun h => V.noConfusion h) | (with_reducible exact (by decide +kernel)))))
  | ((with_reducible apply iteBT); (· (first | exact rfl | assumption | decide +kernel)))
  | ((with_reducible apply iteBF); (· (first | exact rfl | assumption | decide +kernel)))
  | with_reducible refine w_next ?_
  | ((with_reducible apply w_ixT); (· walk_at "look"); (· walk_at "at"))
  | ((with_reducible apply w_ixL); (· walk_at "look"); (· walk_at "at"))
  | with_reducible refine w_cb ?_
  | ((with_reducible apply w_lenT); (· walk_at "look"))
  | ((with_reducible apply w_lenL); (· walk_at "look"))
  | with_reducible refine w_bm ?_
  | with_reducible refine w_bm0 ?_
  | ((with_reducible apply w_tyL); (· walk_at "look"))
  | ((with_reducible apply w_append); (· walk_at "look"); (· walk_at "sz"); intro H' c)
  | ((with_reducible apply w_setL); (· walk_at "look"); (· walk_at "at"); intro H' c)
  | with_reducible refine w_ret ?_
  | with_reducible refine w_retN ?_
  | with_reducible refine w_rt ?_
  | with_reducible refine w_bk ?_
  | with_reducible refine w_ct ?_
  | with_reducible refine w_break ?_
  | with_reducible refine w_cont ?_
  | with_reducible refine w_drop ?_
  | with_reducible refine w_if ?_
  | with_reducible refine w_and ?_
  | with_reducible refine w_or ?_
  | with_reducible refine w_not ?_
  | with_reducible refine w_andV ?_
  | with_reducible refine w_orV ?_
  | with_reducible refine w_notV ?_
  | with_reducible refine w_isN ?_
  | with_reducible refine w_notN ?_
  | with_reducible refine w_un ?_
  | with_reducible refine w_rU ?_
  | with_reducible refine w_fld ?_
  | ((with_reducible apply w_fld1); (· walk_at "look"); (· assumption); (· assumption); (· exact rfl))
  | with_reducible refine w_par ?_
  | with_reducible refine w_par1 ?_
  | ((with_reducible apply w_aug); (· exact rfl))
  | with_reducible refine w_for ?_
  | with_reducible refine w_iTup ?_
  | with_reducible refine w_iList ?_
  | ((with_reducible apply w_forT); (· walk_at "look"))
  | ((with_reducible apply w_forL); (· walk_at "look"))
  | ((with_reducible apply w_inT); (· walk_at "look"); (· exact rfl); (· exact rfl))
  | ((with_reducible apply w_inL); (· walk_at "look"); (· exact rfl); (· exact rfl))
  | with_reducible refine w_lc ?_
  | ((with_reducible apply w_wipe); (· exact rfl))
  | with_reducible refine w_yes ?_
  | ((with_reducible apply w_acc); (· walk_at "look"); (· walk_at "sz"); intro H' c)
  | with_reducible refine w_rng1 ?_
  | with_reducible refine w_rng2 ?_
  | ((with_reducible apply w_rng1a); (· omega); (· omega))
  | ((with_reducible apply w_rng2a); (· omega); (· omega); (· omega); (· omega))
  | ((with_reducible apply w_gTup); (· walk_at "look"); (· exact rfl))
  | with_reducible refine w_gCons ?_
  | with_reducible refine w_gNil ?_
  | ((with_reducible apply w_cat); (· walk_at "look"); (· walk_at "look"); (· walk_at "sz"); intro p H' n)
  | ((with_reducible apply w_rep); (· walk_at "look"); (· omega); (· omega); (· walk_at "sz"); intro p H' n)
  | walk_at "use")
local macro_rules | `(tactic| walk_at "sy") => `(tactic| repeat walk_at "sy1")
section
variable {P : Program} {w : World} {K : PySem.W.Frag} {mg : Str → Option Value} {base : Heap}
/-! what is run -/
def nextBit : List Int → Int × List Int
  | [] => (1, [])
  | b :: r => (b, r)
def isBits (bs : List Int) : Prop := ∀ b ∈ bs, b = 0 ∨ b = 1
theorem nextBit_b {bs : List Int} (h : isBits bs) : (nextBit bs).1 = 0 ∨ (nextBit bs).1 = 1 := by
  cases bs with
  | nil => exact .inr rfl
  | cons b r => exact h b (List.mem_cons_self ..)
theorem nextBit_r {bs : List Int} (h : isBits bs) : isBits (nextBit bs).2 := by
  cases bs with
  | nil => exact h
  | cons b r => exact fun x hx => h x (List.mem_cons_of_mem _ hx)
theorem nextBit_len (bs : List Int) : (nextBit bs).2.length ≤ bs.length ∧ ((nextBit bs).1 = 0 → (nextBit bs).2.length + 1 ≤ bs.length) := by
  cases bs with
  | nil => exact ⟨Nat.le_refl _, fun h => absurd h (by decide)⟩
  | cons b r => exact ⟨by simp [nextBit], fun _ => by simp [nextBit]⟩
theorem seq0 (n : Nat) : seqIndex? 0 (n + 1) = some 0 := by
  unfold seqIndex?
  simp
def spBit : Sp := fun vs H Q _ => ∃ (l : Addr) (bs : List Int), vs = [.ref l] ∧ H l = some (.lst (bs.map V.int)) ∧ ∀ H', Chg l (.lst (bs.map V.int)) (.lst ((nextBit bs).2.map V.int)) H H' → Q (.int (nextBit bs).1) H'
theorem use_bit {H : Hp} {Q : VK} {E : XK} {l : Addr} {bs : List Int} (h : H l = some (.lst (bs.map V.int))) (hb : isBits bs) (k : ∀ (b : Int) (bs' : List Int) (H' : Hp), (b = 0 ∨ b = 1) → isBits bs' → bs'.length ≤ bs.length → (b = 0 → bs'.length + 1 ≤ bs.length) → Chg l (.lst (bs.map V.int)) (.lst (bs'.map V.int)) H H' → Q (.int b) H') : spBit ([.ref l] ++ []) H Q E :=
  ⟨l, bs, rfl, h, fun H' c => k _ _ H' (nextBit_b hb) (nextBit_r hb) (nextBit_len bs).1 (nextBit_len bs).2 c⟩
theorem use_flat {H : Hp} {Q : VK} {E : XK} {D : Nat} {a : Addr} {xs : List V} (ts : List Tr) (ha : H a = some (.tup xs)) (ht : TellsAt H ts xs) (hd : deps ts < D) (hc : cnts ts ≤ 20000) (k : ∀ (g : Addr) (ws : List V) (H' : Hp), New g (.lst ws) H H' → ws.length = cnts ts → Q (.ref g) H') : spFlat D ([.ref a] ++ []) H Q E :=
  ⟨a, xs, ts, rfl, ha, ht, hd, hc, fun H' g ws s n h hw => k g ws H' ⟨n, h, s⟩ hw⟩
theorem Chg.ofNew {H H1 H' : Hp} {p l : Addr} {o a b : HO} (n : New p o H H1) (c : Chg l a b H1 H') (h : H l = some a) : Chg l a b H H' := ⟨h, c.at_, fun x y e ne => c.but _ _ (n.get e) ne⟩
theorem Chg.ofNew0 {H H1 : Hp} {p l : Addr} {o a : HO} (n : New p o H H1) (h : H l = some a) : Chg l a a H H1 := ⟨h, n.get h, fun x y e _ => n.get e⟩
theorem ok_l_bit (T : Tx K mg) : FnOk P w K mg base CX0 1 T.f_l_bit T.d_l_bit ["_law_bits"] spBit := by
  refine T.F_l_bit.ok sc_l_bit (fun vs H Q E h => ?_) (fun cdv A outer s H vs Q E hr h => ?_)
  · obtain ⟨l, bs, rfl, _⟩ := h
    rfl
  · obtain ⟨l, bs, rfl, hl, q⟩ := h
    refine ⟨_, (pss_cons (ps_if (pt_cmpR (eqDK (K := K) rfl hr.units) (pv 0) (pe_lst pa_nil) (nomark _))
        (pss_one (ps_ret pe_int))
        pss_nil)
      (pss_one (ps_ret (pe_bm PySem.F.plainAttrs_list PySem.F.slot_list_pop PySem.F.type_list_pop mt_popAt (pv 0) (pa_cons pe_int pa_nil))))), ?_⟩
    walk_at "sy"
    rename_i e0 H1 n1
    refine ⟨.list (bs.map PyData.int), .list [], dpIntL (SqL.of (n1.get hl)), .lst (SqL.of n1.at_) .nil, shInts _, by decide +kernel, ?_⟩
    cases bs with
    | nil =>
      walk_at "sy"
      exact q _ (Chg.ofNew0 n1 hl)
    | cons b r =>
      walk_at "sy"
      refine ⟨l, _, 0, 0, .int b, rfl, rfl, n1.get hl, by decide, by decide, ?_, rfl, ?_⟩
      · exact seq0 _
      · exact q _ (Chg.ofNew n1 (Chg.mk' (n1.get hl)) hl)
/-- a way by choices: from a point, by pairs of a point and its choice, to a point -/
def Trail (fs : List (List Nat)) : Nat → List Kn → Nat → Prop
  | p, [], q => p = q
  | p, x :: l, q => x.1 = p ∧ ∃ f n, fs[p]? = some f ∧ f[x.2]? = some n ∧ Trail fs n l q
theorem Trail.append {fs : List (List Nat)} : ∀ {l m : List Kn} {p q r : Nat}, Trail fs p l q → Trail fs q m r → Trail fs p (l ++ m) r
  | [], _, _, _, _, h, g => by
    have h : _ = _ := h
    subst h
    exact g
  | x :: l, m, p, q, r, ⟨h, f, n, h1, h2, h3⟩, g => ⟨h, f, n, h1, h2, Trail.append h3 g⟩
theorem Trail.one {fs : List (List Nat)} {p c n : Nat} {f : List Nat} (h : fs[p]? = some f) (g : f[c]? = some n) : Trail fs p [(p, c)] n := ⟨rfl, f, n, h, g, rfl⟩
theorem Trail.snoc {fs : List (List Nat)} {l : List Kn} {p q c n : Nat} {f : List Nat} (t : Trail fs p l q) (h : fs[q]? = some f) (g : f[c]? = some n) : Trail fs p (l ++ [(q, c)]) n := t.append (Trail.one h g)
/-- the followers of rows stand in all of them, from a point on -/
def In (fs gs : List (List Nat)) (k : Nat) : Prop := ∀ (i : Nat) (f : List Nat), gs[i]? = some f → fs[k + i]? = some f
theorem In.left {fs a b : List (List Nat)} {k : Nat} (h : In fs (a ++ b) k) : In fs a k := fun i f e => h i f (by
  have := (List.getElem?_eq_some_iff.mp e).1
  rw [List.getElem?_append_left this]
  exact e)
theorem In.right {fs a b : List (List Nat)} {k : Nat} (h : In fs (a ++ b) k) : In fs b (k + a.length) := fun i f e => by
  have := h (a.length + i) f (by
    rw [List.getElem?_append_right (by omega), Nat.add_sub_cancel_left]
    exact e)
  rw [Nat.add_assoc]
  exact this
theorem In.head {fs b : List (List Nat)} {f : List Nat} {k : Nat} (h : In fs (f :: b) k) : fs[k]? = some f := h 0 f rfl
theorem In.tail {fs b : List (List Nat)} {f : List Nat} {k : Nat} (h : In fs (f :: b) k) : In fs b (k + 1) := fun i g e => by
  have := h (i + 1) g e
  rw [show k + 1 + i = k + (i + 1) by omega]
  exact this
def spRun (D : Nat) : Sp := fun vs H Q _ => ∃ (a lb lf : Addr) (k th e : Nat) (xs fv : List V) (ts : List Tr) (bs : List Int) (fnd : List Kn) (fs : List (List Nat)), vs = [.ref a, .int (k : Int), .ref lb, .ref lf] ∧ H a = some (.tup xs) ∧ TellsAt H ts xs ∧ deps ts < D ∧ D ≤ 5 ∧ k + cnts ts ≤ 1000 ∧
  H lb = some (.lst (bs.map V.int)) ∧ isBits bs ∧ H lf = some (.lst fv) ∧ KnsAt H fnd fv ∧ lb ≠ lf ∧ In fs (fol e ts k th) k ∧ fnd.length + cnts ts + bs.length * 1000 ≤ 100000 ∧
  ∀ (H' : Hp) (back : Bool) (bs' : List Int) (l : List Kn) (fv' : List V), Keep H H' → H' lb = some (.lst (bs'.map V.int)) → isBits bs' → bs'.length ≤ bs.length → H' lf = some (.lst fv') → KnsAt H' (fnd ++ l) fv' →
    Trail fs (bg ts k th) l (if back = true then e else th) → l.length + bs'.length * 1000 ≤ cnts ts + bs.length * 1000 → Q (.bl back) H'
end
local macro_rules | `(tactic| walk_at "use") => `(tactic| ((with_reducible apply use_bit); (· walk_at "look"); (· assumption); intro b bs' H' hob h1 h2 h3 c))
section
variable {P : Program} {w : World} {K : PySem.W.Frag} {mg : Str → Option Value} {base : Heap}
theorem bg_drop {ts : List Tr} {i : Nat} (hi : i < ts.length) (x th : Nat) : bg (ts.drop (i + 1)) x th = if i + 1 = ts.length then th else x := by
  unfold bg
  have e2 : (ts.drop (i + 1)).isEmpty = decide (i + 1 = ts.length) := by
    rw [Bool.eq_iff_iff, List.isEmpty_iff, List.drop_eq_nil_iff, decide_eq_true_iff]
    omega
  rw [e2]
  by_cases h2 : i + 1 = ts.length <;> simp [h2]
theorem bg_some {ts : List Tr} {i : Nat} (hi : i < ts.length) (x th : Nat) : bg (ts.drop i) x th = x := by
  unfold bg
  have e2 : (ts.drop i).isEmpty = false := by
    rw [Bool.eq_false_iff]
    intro h
    rw [List.isEmpty_iff, List.drop_eq_nil_iff] at h
    omega
  rw [e2]
  rfl
theorem bg_all (ts : List Tr) (x th : Nat) : bg (ts.drop ts.length) x th = th := by
  unfold bg
  rw [List.drop_length]
  rfl
theorem ok_l_run (T : Tx K mg) : ∀ D : Nat, FnOk P w K mg base CX0 (D + 7) T.f_l_run T.d_l_run ["_law_rows", "_law_first", "_law_bits", "_law_found"] (spRun D)
  | 0 => T.F_l_run.ok sc_l_run (fun vs H Q E ⟨_, _, _, _, _, _, _, _, _, _, _, _, _, _, _, h, _⟩ => absurd h (Nat.not_lt_zero _)) (fun cdv A outer s H vs Q E hr ⟨_, _, _, _, _, _, _, _, _, _, _, _, _, _, _, h, _⟩ => absurd h (Nat.not_lt_zero _))
  | D + 1 => by
    have ih := ok_l_run T D
    refine T.F_l_run.ok sc_l_run (fun vs H Q E h => ?_) (fun cdv A outer s H vs Q E hr h => ?_)
    · obtain ⟨_, _, _, _, _, _, _, _, _, _, _, _, rfl, _⟩ := h
      rfl
    · obtain ⟨a, lb, lf, k, th, e, xs, fv, ts, bs, fnd, fs, rfl, ha, hts, hd, hD, hk, hlb, hbs, hlf, hfnd, hne, hin, hsz, q⟩ := h
      refine ⟨_, (pss_cons (ps_set (i := 4) sc_l_run.nd rfl (Or.inl rfl) (pv 1))
      (pss_cons (ps_for PassesOwn.never rfl (pi_tupK (K := K) rfl (pv 0)) (pg_name (i := 5) sc_l_run.nd rfl (Or.inl rfl))
        (pss_cons (ps_if (pt_cmpR (in_seqK (K := K) rfl) (pe_ix (ix_tupK (K := K) rfl) (pv 5) pe_int (fun _ _ => rfl)) (pe_tup (pa_cons pe_str (pa_cons pe_str pa_nil))) (by rfl))
          (pss_one (ps_expr (pe_bm PySem.F.plainAttrs_list PySem.F.slot_list_append PySem.F.type_list_append mt_append (pv 3) (pa_cons (pe_tup (pa_cons (pv 4) (pa_cons pe_int pa_nil))) pa_nil))))
          pss_nil)
        (pss_cons (ps_if (pt_cmpR op_eq (pe_ix (ix_tupK (K := K) rfl) (pv 5) pe_int (fun _ _ => rfl)) pe_str (nomark _))
          (pss_one (ps_ret pe_bl))
          pss_nil)
        (pss_cons (ps_if (pt_cmpR op_eq (pe_ix (ix_tupK (K := K) rfl) (pv 5) pe_int (fun _ _ => rfl)) pe_str (nomark _))
          (pss_cons (ps_set (i := 6) sc_l_run.nd rfl (Or.inl rfl) (pe_call (ok_l_bit T) (hr.mono (by omega)) rfl T.m_l_bit T.F_l_bit.kp T.B_l_bit .nil pass0 (pa_cons (pv 2) pa_nil)))
          (pss_cons (ps_expr (pe_bm PySem.F.plainAttrs_list PySem.F.slot_list_append PySem.F.type_list_append mt_append (pv 3) (pa_cons (pe_tup (pa_cons (pv 4) (pa_cons (pv 6) pa_nil))) pa_nil)))
          (pss_cons (ps_set (i := 7) sc_l_run.nd rfl (Or.inl rfl) (pe_op op_add (pv 4) pe_int))
          (pss_cons (ps_if (pt_cmpR op_eq (pv 6) pe_int (nomark _))
            (pss_one (ps_set (i := 7) sc_l_run.nd rfl (Or.inl rfl) (pe_op op_add (pv 7) (pe_callB (len_seqK (K := K) rfl) (by rfl) T.n_len PySem.boot_len (pa_cons (pe_call (ok_l_flat T 5) (hr.mono (by omega)) rfl T.m_l_flat T.F_l_flat.kp T.B_l_flat .nil pass0 (pa_cons (pe_ix (ix_tupK (K := K) rfl) (pv 5) pe_int (fun _ _ => rfl)) pa_nil)) pa_nil)))))
            pss_nil)
          (pss_one (ps_if (pt_val (pe_call ih (hr.mono (by omega)) rfl T.m_l_run T.F_l_run.kp T.B_l_run .nil pass0 (pa_cons (pe_ix (ix_tupK (K := K) rfl) (pv 5) (pe_op op_add pe_int (pv 6)) (fun _ _ => rfl)) (pa_cons (pv 7) (pa_cons (pv 2) (pa_cons (pv 3) pa_nil))))))
            (pss_one (ps_ret pe_bl))
            pss_nil))))))
          pss_nil)
        (pss_cons (ps_while PassesOwn.never (pt_cmpR op_eq (pe_ix (ix_tupK (K := K) rfl) (pv 5) pe_int (fun _ _ => rfl)) pe_str (nomark _))
          (pss_cons (ps_set (i := 6) sc_l_run.nd rfl (Or.inl rfl) (pe_call (ok_l_bit T) (hr.mono (by omega)) rfl T.m_l_bit T.F_l_bit.kp T.B_l_bit .nil pass0 (pa_cons (pv 2) pa_nil)))
          (pss_cons (ps_expr (pe_bm PySem.F.plainAttrs_list PySem.F.slot_list_append PySem.F.type_list_append mt_append (pv 3) (pa_cons (pe_tup (pa_cons (pv 4) (pa_cons (pv 6) pa_nil))) pa_nil)))
          (pss_cons (ps_if (pt_cmpR op_eq (pv 6) pe_int (nomark _))
            (pss_one ps_break)
            pss_nil)
          (pss_one (ps_if (pt_val (pe_call ih (hr.mono (by omega)) rfl T.m_l_run T.F_l_run.kp T.B_l_run .nil pass0 (pa_cons (pe_ix (ix_tupK (K := K) rfl) (pv 5) pe_int (fun _ _ => rfl)) (pa_cons (pe_op op_add (pv 4) pe_int) (pa_cons (pv 2) (pa_cons (pv 3) pa_nil))))))
            (pss_one (ps_ret pe_bl))
            pss_nil))))))
        (pss_one (ps_set (i := 4) sc_l_run.nd rfl (Or.inl rfl) (pe_op op_add (pv 4) (pe_callB (len_seqK (K := K) rfl) (by rfl) T.n_len PySem.boot_len (pa_cons (pe_call (ok_l_flat T 5) (hr.mono (by omega)) rfl T.m_l_flat T.F_l_flat.kp T.B_l_flat .nil pass0 (pa_cons (pe_tup (pa_cons (pv 5) pa_nil)) pa_nil)) pa_nil))))))))))
      (pss_one (ps_ret pe_bl)))), ?_⟩
      walk_at "sy"

      refine k_forT xs (fun i σ H1 => ∃ (bs1 : List Int) (l : List Kn) (fv1 : List V) (v5 v6 v7 : Option V), σ = [some (.ref a), some (.int (k : Int)), some (.ref lb), some (.ref lf), some (.int ((k + cnts (ts.take i) : Nat) : Int)), v5, v6, v7] ∧
          Keep H H1 ∧ H1 lb = some (.lst (bs1.map V.int)) ∧ isBits bs1 ∧ bs1.length ≤ bs.length ∧ H1 lf = some (.lst fv1) ∧ KnsAt H1 (fnd ++ l) fv1 ∧ Trail fs (bg ts k th) l (bg (ts.drop i) (k + cnts (ts.take i)) th) ∧
          In fs (fol e (ts.drop i) (k + cnts (ts.take i)) th) (k + cnts (ts.take i)) ∧ l.length + bs1.length * 1000 ≤ cnts (ts.take i) + bs.length * 1000)
        ⟨bs, [], fv, none, none, none, by simp [cnts, L2.start], by walk_at "kp", hlb, hbs, Nat.le_refl _, hlf, by simpa using hfnd, by simp [cnts, Trail], by simpa [cnts] using hin, by simp [cnts]⟩ (fun i σ H1 _ ⟨_, _, _, _, _, _, _, kp, _⟩ => SqT.of (kp _ _ ha trivial)) ?_ ?_
      · rintro i x σ H1 hx ⟨bs1, l, fv1, v5, v6, v7, rfl, kp, hb1, hbs1, hbl, hf1, hkn, htr, hin1, hcap⟩
        obtain ⟨t, hti⟩ := vget hts.len hx
        have hi := (List.getElem?_eq_some_iff.mp hti).1
        obtain ⟨x', hx', ht0⟩ := hts.get hti
        obtain rfl : x' = x := by
          rw [hx] at hx'
          exact (Option.some.inj hx').symm
        have ht1 := ht0.keep kp
        have hdt := deps_mem (List.mem_of_getElem? hti)
        have hsp := cnts_split ts (i + 1)
        have hct := cnts_take hti
        have hlen := hkn.1
        rw [List.length_append] at hlen
        rw [fol_step hti] at hin1
        rw [bg_some hi] at htr
        have hin2 := hin1.left
        replace hin1 := hin1.right
        rw [folR_len] at hin1
        generalize hpt : k + cnts (ts.take i) = pt at *
        generalize haf : (if i + 1 = ts.length then th else pt + cnt t) = af at *
        cases t with
        | tell n =>
          obtain ⟨p, rfl, hp⟩ := id ht1
          walk_at "sy"
          refine ⟨fun m σ' H' => σ' = _ ∧ H' = _, ⟨0, rfl, rfl⟩, ?_⟩
          rintro m σ H2 ⟨rfl, rfl⟩
          walk_at "sy"
          refine use_flat [.tell n] (by walk_at "look") ⟨_, [], rfl, TellAt.keep (by walk_at "kp") ht1, rfl⟩ (by simp only [deps]; omega) (by rw [cnts_one]; simp only [cnt]; omega) (fun g ws H9 ng hw => ?_)
          rw [cnts_one] at hw
          walk_at "sy"
          refine ⟨bs1, l ++ [(pt, 0)], _, _, _, _, by (rw [hw, hct, ← Nat.add_assoc, hpt]; rfl), by walk_at "kp", by walk_at "look", hbs1, by omega, by walk_at "look", ?_, ?_, ?_, ?_⟩
          · rw [← List.append_assoc]
            exact KnsAt.snoc (hkn.keep (by walk_at "kp")) (by walk_at "look")
          · rw [bg_drop hi, hct, ← Nat.add_assoc, hpt, haf]
            exact htr.snoc hin2.head rfl
          · rw [hct, ← Nat.add_assoc, hpt]
            exact hin1
          · rw [hct, List.length_append]
            simp only [cnt, List.length_cons, List.length_nil]
            omega
        | back =>
          obtain ⟨p, rfl, hp⟩ := id ht1
          walk_at "sy"
          refine q _ true bs1 (l ++ [(pt, 0)]) _ (by walk_at "kp") (by walk_at "look") hbs1 hbl (by walk_at "look") ?_ (htr.snoc hin2.head rfl) ?_
          · rw [← List.append_assoc]
            exact KnsAt.snoc (hkn.keep (by walk_at "kp")) (by walk_at "look")
          · rw [List.length_append]
            simp only [cnt, List.length_cons, List.length_nil] at *
            omega
        | ife c ra rb =>
          obtain ⟨p, pa, pb, va, vb, rfl, hp, hpa, hpb, hta, htb⟩ := id ht1
          have hda := dep_parts (t := .ife c ra rb) (p := ra) (List.mem_cons_self ..)
          have hdb := dep_parts (t := .ife c ra rb) (p := rb) (List.mem_cons_of_mem _ (List.mem_cons_self ..))
          have hf0 := hin2.head
          have hina := hin2.tail.left
          have hinb := hin2.tail.right
          rw [fol_len] at hinb
          simp only [cnt] at hct hsp
          walk_at "sy"
          rename_i b bs2 Ha hob hb2 hl2 hl3 cb pp Hb nb Hc cc
          rcases hob with rfl | rfl
          · walk_at "sy"
            refine ⟨pa, lb, lf, (pt + 1), af, e, va, _, ra, bs2, fnd ++ (l ++ [(pt, 0)]), fs, rfl, by walk_at "look", TellsAt.keep (by walk_at "kp") hta, by omega, by omega, by omega, by walk_at "look", hb2, by walk_at "look", ?_, hne, hina, ?_, fun H' back bs3 l2 fv2 kp2 hb3 hbs3 hbl3 hf3 hkn3 htr3 hcap3 => ?_⟩
            · rw [← List.append_assoc]
              exact KnsAt.snoc (hkn.keep (by walk_at "kp")) (by walk_at "look")
            · simp only [List.length_append, List.length_cons, List.length_nil]
              omega
            cases back with
            | true =>
              walk_at "sy"
              refine q _ true bs3 (l ++ [(pt, 0)] ++ l2) fv2 (by walk_at "kp") hb3 hbs3 (by omega) hf3 ?_ ((htr.snoc hf0 rfl).append htr3) ?_
              · rw [← List.append_assoc]
                exact hkn3
              · simp only [List.length_append, List.length_cons, List.length_nil]
                omega
            | false =>
              walk_at "sy"
              refine ⟨fun m σ' H' => σ' = _ ∧ H' = _, ⟨0, rfl, rfl⟩, ?_⟩
              rintro m σ H2 ⟨rfl, rfl⟩
              walk_at "sy"
              refine use_flat [.ife c ra rb] (by walk_at "look") ⟨_, [], rfl, TellAt.keep (by walk_at "kp") ht1, rfl⟩ (by simp only [deps]; omega) (by rw [cnts_one]; simp only [cnt]; omega) (fun g ws H9 ng hw => ?_)
              rw [cnts_one] at hw
              walk_at "sy"
              refine ⟨bs3, l ++ [(pt, 0)] ++ l2, _, _, _, _, by (rw [hw, hct, ← Nat.add_assoc, hpt]; rfl), by walk_at "kp", by walk_at "look", hbs3, by omega, by walk_at "look", ?_, ?_, ?_, ?_⟩
              · rw [← List.append_assoc]
                exact hkn3.keep (by walk_at "kp")
              · rw [bg_drop hi, hct, ← Nat.add_assoc, hpt]
                show Trail _ _ _ (if i + 1 = ts.length then th else pt + cnt (.ife c ra rb))
                rw [haf]
                exact (htr.snoc hf0 rfl).append htr3
              · rw [hct, ← Nat.add_assoc, hpt]
                exact hin1
              · rw [hct]
                simp only [List.length_append, List.length_cons, List.length_nil]
                omega
          · walk_at "sy"
            refine use_flat ra (by walk_at "look") (TellsAt.keep (by walk_at "kp") hta) (by omega) (by omega) (fun g ws H9 ng hw => ?_)
            walk_at "sy"
            rw [hw]
            refine ⟨pb, lb, lf, (pt + 1 + cnts ra), af, e, vb, _, rb, bs2, fnd ++ (l ++ [(pt, 1)]), fs, rfl, by walk_at "look", TellsAt.keep (by walk_at "kp") htb, by omega, by omega, by omega, by walk_at "look", hb2, by walk_at "look", ?_, hne, hinb, ?_, fun H' back bs3 l2 fv2 kp2 hb3 hbs3 hbl3 hf3 hkn3 htr3 hcap3 => ?_⟩
            · rw [← List.append_assoc]
              exact KnsAt.snoc (hkn.keep (by walk_at "kp")) (by walk_at "look")
            · simp only [List.length_append, List.length_cons, List.length_nil]
              omega
            cases back with
            | true =>
              walk_at "sy"
              refine q _ true bs3 (l ++ [(pt, 1)] ++ l2) fv2 (by walk_at "kp") hb3 hbs3 (by omega) hf3 ?_ ((htr.snoc hf0 rfl).append htr3) ?_
              · rw [← List.append_assoc]
                exact hkn3
              · simp only [List.length_append, List.length_cons, List.length_nil]
                omega
            | false =>
              walk_at "sy"
              refine ⟨fun m σ' H' => σ' = _ ∧ H' = _, ⟨0, rfl, rfl⟩, ?_⟩
              rintro m σ H2 ⟨rfl, rfl⟩
              walk_at "sy"
              refine use_flat [.ife c ra rb] (by walk_at "look") ⟨_, [], rfl, TellAt.keep (by walk_at "kp") ht1, rfl⟩ (by simp only [deps]; omega) (by rw [cnts_one]; simp only [cnt]; omega) (fun g ws H9 ng hw => ?_)
              rw [cnts_one] at hw
              walk_at "sy"
              refine ⟨bs3, l ++ [(pt, 1)] ++ l2, _, _, _, _, by (rw [hw, hct, ← Nat.add_assoc, hpt]; rfl), by walk_at "kp", by walk_at "look", hbs3, by omega, by walk_at "look", ?_, ?_, ?_, ?_⟩
              · rw [← List.append_assoc]
                exact hkn3.keep (by walk_at "kp")
              · rw [bg_drop hi, hct, ← Nat.add_assoc, hpt]
                show Trail _ _ _ (if i + 1 = ts.length then th else pt + cnt (.ife c ra rb))
                rw [haf]
                exact (htr.snoc hf0 rfl).append htr3
              · rw [hct, ← Nat.add_assoc, hpt]
                exact hin1
              · rw [hct]
                simp only [List.length_append, List.length_cons, List.length_nil]
                omega
        | whl c ra =>
          obtain ⟨p, pa, va, rfl, hp, hpa, hta⟩ := id ht1
          have hda := dep_parts (t := .whl c ra) (p := ra) (List.mem_cons_self ..)
          have hf0 := hin2.head
          have hina := hin2.tail
          simp only [cnt] at hct hsp
          walk_at "sy"
          refine ⟨fun m σ' H' => ∃ (bs2 : List Int) (l2 : List Kn) (fv2 : List V) (v6' : Option V), m = bs2.length ∧ σ' = [some (.ref a), some (.int (k : Int)), some (.ref lb), some (.ref lf), some (.int (pt : Int)), some (.ref p), v6', v7] ∧
              Keep H1 H' ∧ H' lb = some (.lst (bs2.map V.int)) ∧ isBits bs2 ∧ bs2.length ≤ bs1.length ∧ H' lf = some (.lst fv2) ∧ KnsAt H' (fnd ++ l2) fv2 ∧ Trail fs (bg ts k th) l2 pt ∧ l2.length + bs2.length * 1000 ≤ l.length + bs1.length * 1000,
            ⟨_, bs1, l, fv1, v6, rfl, rfl, by walk_at "kp", by walk_at "look", hbs1, Nat.le_refl _, by walk_at "look", hkn.keep (by walk_at "kp"), htr, Nat.le_refl _⟩, ?_⟩
          rintro m σ H2 ⟨bsw, lw, fvw, v6', rfl, rfl, kpw, hbw, hbsw, hblw, hfw, hknw, htrw, hcapw⟩
          have hlenw := hknw.1
          rw [List.length_append] at hlenw
          walk_at "sy"
          refine ⟨_, fun σ' H' w => w, ?_⟩
          walk_at "sy"
          rename_i b bs2 Ha hob hb2 hl2 hl3 cb pp Hb nb Hc cc
          rcases hob with rfl | rfl
          · walk_at "sy"
            refine ⟨pa, lb, lf, pt + 1, pt, e, va, _, ra, bs2, fnd ++ (lw ++ [(pt, 0)]), fs, rfl, by walk_at "look", TellsAt.keep (by walk_at "kp") hta, by omega, by omega, by omega, by walk_at "look", hb2, by walk_at "look", ?_, hne, hina, ?_, fun H' back bs3 l2 fv2 kp2 hb3 hbs3 hbl3 hf3 hkn3 htr3 hcap3 => ?_⟩
            · rw [← List.append_assoc]
              exact KnsAt.snoc (hknw.keep (by walk_at "kp")) (by walk_at "look")
            · simp only [List.length_append, List.length_cons, List.length_nil]
              omega
            have hl3' := hl3 rfl
            cases back with
            | true =>
              walk_at "sy"
              refine q _ true bs3 (lw ++ [(pt, 0)] ++ l2) fv2 (by walk_at "kp") hb3 hbs3 (by omega) hf3 ?_ ((htrw.snoc hf0 rfl).append htr3) ?_
              · rw [← List.append_assoc]
                exact hkn3
              · simp only [List.length_append, List.length_cons, List.length_nil]
                omega
            | false =>
              walk_at "sy"
              refine ⟨bs3.length, by omega, bs3, lw ++ [(pt, 0)] ++ l2, fv2, _, rfl, rfl, by walk_at "kp", hb3, hbs3, by omega, hf3, ?_, (htrw.snoc hf0 rfl).append htr3, ?_⟩
              · rw [← List.append_assoc]
                exact hkn3
              · simp only [List.length_append, List.length_cons, List.length_nil]
                omega
          · walk_at "sy"
            refine use_flat [.whl c ra] (by walk_at "look") ⟨_, [], rfl, TellAt.keep (by walk_at "kp") ht1, rfl⟩ (by simp only [deps]; omega) (by rw [cnts_one]; simp only [cnt]; omega) (fun g ws H9 ng hw => ?_)
            rw [cnts_one] at hw
            walk_at "sy"
            refine ⟨bs2, lw ++ [(pt, 1)], _, _, _, _, by (rw [hw, hct, ← Nat.add_assoc, hpt]; rfl), by walk_at "kp", by walk_at "look", hb2, by omega, by walk_at "look", ?_, ?_, ?_, ?_⟩
            · rw [← List.append_assoc]
              exact KnsAt.snoc (hknw.keep (by walk_at "kp")) (by walk_at "look")
            · rw [bg_drop hi, hct, ← Nat.add_assoc, hpt]
              show Trail _ _ _ (if i + 1 = ts.length then th else pt + cnt (.whl c ra))
              rw [haf]
              exact htrw.snoc hf0 rfl
            · rw [hct, ← Nat.add_assoc, hpt]
              exact hin1
            · rw [hct]
              simp only [List.length_append, List.length_cons, List.length_nil]
              omega
      · rintro σ H1 ⟨bs1, l, fv1, v5, v6, v7, rfl, kp, hb1, hbs1, hbl, hf1, hkn, htr, hin1, hcap⟩
        rw [hts.len] at htr hcap
        rw [bg_all] at htr
        rw [List.take_length] at hcap
        walk_at "sy"
        exact q _ false bs1 l fv1 kp hb1 hbs1 hbl hf1 hkn htr hcap
end
section
variable {P : Program} {w : World} {K : PySem.W.Frag} {mg : Str → Option Value} {base : Heap}
theorem nexts_of {fs : List (List Nat)} {x : Nat} {f : List Nat} (h : fs[x]? = some f) : nexts fs x = f := by
  unfold nexts
  rw [List.getD_eq_getElem?_getD, List.getElem?_append_left (List.getElem?_eq_some_iff.mp h).1, h]
  rfl
theorem Trail.zs {fs : List (List Nat)} {q : Nat} : ∀ {l : List Kn} {p : Nat}, Trail fs p l q → (l.map (·.1) ++ [q])[0]? = some p ∧ (∀ j x y, (l.map (·.1) ++ [q])[j]? = some x → (l.map (·.1) ++ [q])[j + 1]? = some y → y ∈ nexts fs x) ∧ (∀ x ∈ l.map (·.1), x < fs.length) ∧
    ∀ k x, l[k]? = some x → ∃ f n, fs[x.1]? = some f ∧ f[x.2]? = some n ∧ (l.map (·.1) ++ [q])[k + 1]? = some n
  | [], p, h => by
    have h : p = q := h
    subst h
    refine ⟨rfl, fun j x y _ h2 => ?_, fun x hx => ?_, fun k x hk => ?_⟩
    · simp at h2
    · simp at hx
    · simp at hk
  | x :: l, p, ⟨e, f, n, h1, h2, h3⟩ => by
    obtain ⟨i1, i2, i3, i4⟩ := Trail.zs h3
    subst e
    refine ⟨rfl, fun j y z hy hz => ?_, fun y hy => ?_, fun k y hk => ?_⟩
    · cases j with
      | zero =>
        simp only [List.map_cons, List.cons_append, List.getElem?_cons_zero, Option.some.injEq] at hy
        simp only [List.map_cons, List.cons_append, List.getElem?_cons_succ] at hz
        subst hy
        rw [i1] at hz
        obtain rfl : n = z := Option.some.inj hz
        rw [nexts_of h1]
        exact List.mem_of_getElem? h2
      | succ j =>
        simp only [List.map_cons, List.cons_append, List.getElem?_cons_succ] at hy hz
        exact i2 j y z hy hz
    · rcases List.mem_cons.mp hy with e | hy
      · subst e
        exact (List.getElem?_eq_some_iff.mp h1).1
      · exact i3 y hy
    · cases k with
      | zero =>
        simp only [List.getElem?_cons_zero, Option.some.injEq] at hk
        subst hk
        exact ⟨f, n, h1, h2, by simpa using i1⟩
      | succ k =>
        simp only [List.getElem?_cons_succ] at hk
        obtain ⟨f', n', a1, a2, a3⟩ := i4 k y hk
        exact ⟨f', n', a1, a2, by simpa using a3⟩
theorem Trail.way {ts : List Tr} {l : List Kn} (h : Trail (folOf ts) 0 l (cnts ts)) : WayI (folOf ts) ((l.map (·.1) ++ [cnts ts]).map fun j : Nat => (j : Int)) := by
  obtain ⟨i1, i2, i3, _⟩ := h.zs
  constructor
  · intro z hz
    obtain ⟨x, hx, rfl⟩ := List.mem_map.mp hz
    rw [folOf_len]
    have hl := folOf_len ts
    rcases List.mem_append.mp hx with hx | hx
    · have := i3 x hx
      omega
    · obtain rfl : x = cnts ts := by simpa using hx
      omega
  · intro j x y h1 h2
    rw [List.getElem?_map] at h1 h2
    obtain ⟨x', h3, rfl⟩ := Option.map_eq_some_iff.mp h1
    obtain ⟨y', h4, rfl⟩ := Option.map_eq_some_iff.mp h2
    exact ⟨y', rfl, by rw [Int.toNat_natCast]; exact i2 j x' y' h3 h4⟩
theorem Trail.wk {fs : List (List Nat)} {q : Nat} {a : Kn} : ∀ {l : List Kn} {p i : Nat}, Trail fs p l q → Wk (nbN fs) a i (p, 0) → Wk (nbN fs) a (i + l.length) (q, 0)
  | [], p, i, h, w => by
    have h : p = q := h
    subst h
    exact w
  | x :: l, p, i, ⟨e, f, n, h1, h2, h3⟩, w => by
    have := Trail.wk (i := i + 1) h3 ⟨(p, 0), w, List.mem_map.mpr ⟨n, by rw [nexts_of h1]; exact List.mem_of_getElem? h2, rfl⟩⟩
    rw [List.length_cons, show i + (l.length + 1) = i + 1 + l.length by omega]
    exact this
theorem atD_togo {α : Type} [DecidableEq α] {nb : α → List α} {a : α} {uni : List α} (ha : a ∈ uni) (hc : ∀ q p, p ∈ nb q → p ∈ uni) : ∀ (k : Nat) (p : α), AtD nb a k p → k + togo nb a uni k ≤ togo nb a uni 0
  | 0, _, _ => by omega
  | k + 1, p, h => by
    obtain ⟨⟨q, h1, _⟩, _⟩ := AtD.step.mp h
    have := atD_togo ha hc k q h1
    have := togo_lt (NearD.uni ha hc h.near) h
    omega
def stay (n : Nat) : List Kn := List.replicate n (0, 1)
theorem turn0 (n p : Nat) : turn (stay n) p 0 = 0 := by
  unfold turn stay
  split
  · rename_i t ht
    have := List.mem_of_getElem? ht
    obtain ⟨_, rfl⟩ := List.mem_replicate.mp this
    rfl
  · rfl
theorem wkT {fs : List (List Nat)} {n : Nat} : ∀ (i : Nat) (q : Kn), (Wk (nbN fs) (0, 0) i q → q.2 = 0 ∧ Wk (nbT fs (stay n)) (0, 0) i q) ∧ (Wk (nbT fs (stay n)) (0, 0) i q → q.2 = 0 ∧ Wk (nbN fs) (0, 0) i q)
  | 0, q => ⟨fun h => ⟨by rw [show q = (0, 0) from h], h⟩, fun h => ⟨by rw [show q = (0, 0) from h], h⟩⟩
  | i + 1, q => by
    constructor
    · rintro ⟨p, h1, h2⟩
      obtain ⟨e, h3⟩ := (wkT (n := n) i p).1 h1
      obtain ⟨x, hx, rfl⟩ := List.mem_map.mp h2
      refine ⟨rfl, p, h3, List.mem_map.mpr ⟨x, hx, ?_⟩⟩
      rw [e, turn0]
    · rintro ⟨p, h1, h2⟩
      obtain ⟨e, h3⟩ := (wkT (n := n) i p).2 h1
      obtain ⟨x, hx, rfl⟩ := List.mem_map.mp h2
      have e0 : turn (stay n) p.1 p.2 = 0 := by rw [e, turn0]
      refine ⟨e0, p, h3, List.mem_map.mpr ⟨x, hx, ?_⟩⟩
      rw [e0]
theorem atD_T {fs : List (List Nat)} {n k : Nat} {q : Kn} (h : AtD (nbN fs) (0, 0) k q) : AtD (nbT fs (stay n)) (0, 0) k q := ⟨((wkT k q).1 h.1).2, fun j hj w => h.2 j hj ((wkT j q).2 w).2⟩
theorem stay_bits (n : Nat) : Bits (stay n) := fun t ht => by
  obtain ⟨_, rfl⟩ := List.mem_replicate.mp ht
  exact ⟨Nat.zero_le _, Nat.le_refl _⟩
theorem stay_at {H : Hp} {t : Addr} (n : Nat) (h : H t = some (knV (0, 1))) : KnsAt H (stay n) (List.replicate n (.ref t)) := by
  refine ⟨by simp [stay], fun i p hp => ?_⟩
  have hm := List.mem_of_getElem? hp
  obtain ⟨_, rfl⟩ := List.mem_replicate.mp hm
  have hi := (List.getElem?_eq_some_iff.mp hp).1
  simp only [stay, List.length_replicate] at hi
  exact ⟨t, by rw [List.getElem?_replicate, if_pos hi], h⟩
theorem kn_fst {ps : List Kn} {k : Nat} {p : Kn} (h : ps[k]? = some p) : vN ((ps.take (k + 1)).map (·.1)) = vN ((ps.take k).map (·.1)) ++ [.int (p.1 : Int)] := by
  rw [List.take_add_one, h, List.map_append]
  unfold vN
  rw [List.map_append]
  rfl
theorem wayT_of {ts : List Tr} {tl : List Kn} {s : Nat} {ks : List Kn} (hw : Way (nbT (folOf ts) tl) ks) (hh : ks.head? = some (0, s)) : WayI (folOf ts) ((ks.map (·.1)).map fun j : Nat => (j : Int)) := by
  have hst : ∀ (j : Nat) (x y : Kn), ks[j]? = some x → ks[j + 1]? = some y → y.1 ∈ nexts (folOf ts) x.1 := fun j x y h1 h2 => by
    obtain ⟨z, hz, rfl⟩ := List.mem_map.mp (hw j x y h1 h2)
    exact hz
  constructor
  · intro z hz
    obtain ⟨x, hx, rfl⟩ := List.mem_map.mp hz
    obtain ⟨p, hp, rfl⟩ := List.mem_map.mp hx
    rw [folOf_len]
    refine ⟨by omega, ?_⟩
    obtain ⟨j, hj⟩ := List.mem_iff_getElem?.mp hp
    cases j with
    | zero =>
      rw [List.head?_eq_getElem?] at hh
      rw [hh] at hj
      cases hj
      show ((0 : Nat) : Int) ≤ _
      omega
    | succ j =>
      have hj1 := (List.getElem?_eq_some_iff.mp hj).1
      have := hst j ks[j] p (List.getElem?_eq_getElem (by omega)) hj
      obtain ⟨f, h1, h2⟩ := nexts_mem this
      have := folOf_le h1 h2
      omega
  · intro j x y h1 h2
    rw [List.getElem?_map, List.getElem?_map] at h1 h2
    obtain ⟨x', h3, rfl⟩ := Option.map_eq_some_iff.mp h1
    obtain ⟨x'', h5, rfl⟩ := Option.map_eq_some_iff.mp h3
    obtain ⟨y', h4, rfl⟩ := Option.map_eq_some_iff.mp h2
    obtain ⟨y'', h6, rfl⟩ := Option.map_eq_some_iff.mp h4
    exact ⟨y''.1, rfl, by rw [Int.toNat_natCast]; exact hst j x'' y'' h5 h6⟩
def spLaw (K : PySem.W.Frag) : Sp := fun vs H Q _ => ∃ (a : Addr) (ns : List Int), vs = [.ref a] ∧ SqL K H a (ns.map V.int) ∧ ns.length ≤ 63 ∧ ∀ H', Q (.bl true) H'
theorem ok_law (T : Tx K mg) : FnOk P w K mg base CX0 40 T.f_law T.d_law ["_law_script"] (spLaw K) := by
  refine T.F_law.ok sc_law (fun vs H Q E h => ?_) (fun cdv A outer s H vs Q E hr h => ?_)
  · obtain ⟨a, ns, rfl, _⟩ := h
    rfl
  · obtain ⟨a, ns, rfl, hS, _, q⟩ := h
    have hline : sizeLine = 16777216 := sizeLine_eq
    refine ⟨_, (pss_cons (ps_set (i := 1) sc_law.nd rfl (Or.inl rfl) (pe_call (ok_l_walk T) (hr.mono (by omega)) rfl T.m_l_walk T.F_l_walk.kp T.B_l_walk .nil pass0 (pa_cons (pv 0) pa_nil)))
      (pss_cons (ps_set (i := 2) sc_law.nd rfl (Or.inl rfl) (pe_call (ok_l_helper T) (hr.mono (by omega)) rfl T.m_l_helper T.F_l_helper.kp T.B_l_helper .nil pass0 (pa_cons (pv 1) pa_nil)))
      (pss_cons (ps_set (i := 3) sc_law.nd rfl (Or.inl rfl) (pe_call (ok_followers_of T 5) (hr.mono (by omega)) rfl T.m_followers_of T.F_followers_of.kp T.B_followers_of .nil pass0 (pa_cons (pv 2) pa_nil)))
      (pss_cons (ps_setLc (i := 5) (own := [("_law_k", 4)]) (g := gName 4) (tt := tYes) rfl sc_law.nd rfl rfl (sw_true rfl rfl rfl (by decide +kernel)) (pi_range1 rfl T.n_range (pa_cons (pe_op op_mod (pe_call (ok_l_cell T) (hr.mono (by omega)) rfl T.m_l_cell T.F_l_cell.kp T.B_l_cell .nil pass0 (pa_cons (pv 0) (pa_cons pe_int pa_nil))) pe_int) pa_nil)) (blkOk_by (own := [("_law_k", 4)]) (N := ["_law_script", "_law_rows", "_law_helper_here", "_law_followers", "_law_k", "_law_bits", "_law_found", "_law_line", "_law_near", "_law_kept", "_law_point", "_law_bit_here"]) (sc := defScope s_law) (by decide +kernel)) (fun _ _ _ _ _ => pg_name (i := 4) sc_law.nd rfl (Or.inl rfl)) (fun _ _ _ _ _ => pts_nil) (fun _ _ _ _ _ => (pe_op op_fdiv (pe_op op_mod (pe_call (ok_l_mixed T) (hr.mono (by omega)) rfl T.m_l_mixed T.F_l_mixed.kp T.B_l_mixed .nil pass0 (pa_cons (pe_call (ok_l_cell T) (hr.mono (by omega)) rfl T.m_l_cell T.F_l_cell.kp T.B_l_cell .nil pass0 (pa_cons (pv 0) (pa_cons pe_int pa_nil))) (pa_cons (pv 4) pa_nil))) pe_int) pe_int)))
      (pss_cons (ps_set (i := 6) sc_law.nd rfl (Or.inl rfl) (pe_lst pa_nil))
      (pss_cons (ps_expr (pe_call (ok_l_run T 5) (hr.mono (by omega)) rfl T.m_l_run T.F_l_run.kp T.B_l_run .nil pass0 (pa_cons (pv 1) (pa_cons pe_int (pa_cons (pv 5) (pa_cons (pv 6) pa_nil))))))
      (pss_cons (ps_set (i := 7) sc_law.nd rfl (Or.inl rfl) (pe_op op_cat (pe_lc (own := [("_law_point", 10), ("_law_bit_here", 11)]) (tt := tYes) rfl sc_law.nd (pi_listK (K := K) rfl (pv 6)) (blkOk_by (own := [("_law_point", 10), ("_law_bit_here", 11)]) (N := ["_law_script", "_law_rows", "_law_helper_here", "_law_followers", "_law_k", "_law_bits", "_law_found", "_law_line", "_law_near", "_law_kept", "_law_point", "_law_bit_here"]) (sc := defScope s_law) (by decide +kernel)) (fun _ _ _ _ _ => pg_tupK (K := K) (n := 2) rfl rfl (pgs_cons (pg_name (i := 10) sc_law.nd rfl (Or.inl rfl)) (pgs_cons (pg_name (i := 11) sc_law.nd rfl (Or.inl rfl)) pgs_nil))) (fun _ _ _ _ _ => pts_nil) (fun _ _ _ _ _ => (pv 10))) (pe_lst (pa_cons (pe_callB (len_seqK (K := K) rfl) (by rfl) T.n_len PySem.boot_len (pa_cons (pv 3) pa_nil)) pa_nil))))
      (pss_cons (ps_if (pt_not (pt_val (pe_call (ok_is_way T) (hr.mono (by omega)) rfl T.m_is_way T.F_is_way.kp T.B_is_way .nil pass0 (pa_cons (pv 2) (pa_cons (pv 7) pa_nil)))))
        (pss_one (ps_ret pe_bl))
        pss_nil)
      (pss_cons (ps_for PassesOwn.never rfl (pi_range1 rfl T.n_range (pa_cons (pe_callB (len_seqK (K := K) rfl) (by rfl) T.n_len PySem.boot_len (pa_cons (pv 6) pa_nil)) pa_nil)) (pg_name (i := 4) sc_law.nd rfl (Or.inl rfl))
        (pss_one (ps_if (pt_cmpR op_ne (pe_ix (ix_tupK (K := K) rfl) (pe_ix (ix_tupK (K := K) rfl) (pv 3) (pe_ix (ix_tupK (K := K) rfl) (pe_ix (ix_listK (K := K) rfl) (pv 6) (pv 4) (fun _ _ => rfl)) pe_int (fun _ _ => rfl)) (fun _ _ => rfl)) (pe_ix (ix_tupK (K := K) rfl) (pe_ix (ix_listK (K := K) rfl) (pv 6) (pv 4) (fun _ _ => rfl)) pe_int (fun _ _ => rfl)) (fun _ _ => rfl)) (pe_ix (ix_listK (K := K) rfl) (pv 7) (pe_op op_add (pv 4) pe_int) (fun _ _ => rfl)) (nomark _))
          (pss_one (ps_ret pe_bl))
          pss_nil)))
      (pss_cons (ps_set (i := 8) sc_law.nd rfl (Or.inl rfl) (pe_call (ok_nearest T) (hr.mono (by omega)) rfl T.m_nearest T.F_nearest.kp T.B_nearest .nil pass0 (pa_cons (pv 2) (pa_cons (pe_ix (ix_listK (K := K) rfl) (pv 7) pe_int (fun _ _ => rfl)) (pa_cons (pe_ix (ix_listK (K := K) rfl) (pv 7) (pe_un un_neg pe_int) (fun _ _ => rfl)) pa_nil)))))
      (pss_cons (ps_set (i := 9) sc_law.nd rfl (Or.inl rfl) (pe_call (ok_tracked T) (hr.mono (by omega)) rfl T.m_tracked T.F_tracked.kp T.B_tracked .nil pass0 (pa_cons (pv 2) (pa_cons (pe_op op_rep (pe_lst (pa_cons (pe_tup (pa_cons pe_int (pa_cons pe_int pa_nil))) pa_nil)) (pe_callB (len_seqK (K := K) rfl) (by rfl) T.n_len PySem.boot_len (pa_cons (pv 3) pa_nil))) (pa_cons pe_int (pa_cons (pe_ix (ix_listK (K := K) rfl) (pv 7) (pe_un un_neg pe_int) (fun _ _ => rfl)) (pa_cons pe_int pa_nil)))))))
      (pss_cons (ps_if (PW.pt (pw_or (pt_cmp (pc_isN (pv 8))) (pw_or (pt_cmp (pc_isN (pv 9))) (pw_or1 (pt_not (pt_val (pe_call (ok_is_way T) (hr.mono (by omega)) rfl T.m_is_way T.F_is_way.kp T.B_is_way .nil pass0 (pa_cons (pv 2) (pa_cons (pv 9) pa_nil)))))))))
        (pss_one (ps_ret pe_bl))
        pss_nil)
      (pss_one (ps_ret (pe_and (pe_cmpR op_le (pe_callB (len_seqK (K := K) rfl) (by rfl) T.n_len PySem.boot_len (pa_cons (pv 8) pa_nil)) (pe_callB (len_seqK (K := K) rfl) (by rfl) T.n_len PySem.boot_len (pa_cons (pv 7) pa_nil)) (nomark _)) (pe_and (pe_cmpR op_eq (pe_callB (len_seqK (K := K) rfl) (by rfl) T.n_len PySem.boot_len (pa_cons (pv 9) pa_nil)) (pe_callB (len_seqK (K := K) rfl) (by rfl) T.n_len PySem.boot_len (pa_cons (pv 8) pa_nil)) (nomark _)) (pe_one (pe_cmpR op_eq (pe_ix (ix_listK (K := K) rfl) (pv 7) pe_int (fun _ _ => rfl)) pe_int (nomark _))))))))))))))))))), ?_⟩
    walk_at "sy"
    refine ⟨a, ns, rfl, hS, fun H1 r ws ts s1 hr1 tt hd hc => ?_⟩
    walk_at "sy"
    refine ⟨r, ws, ts, rfl, hr1, tt, hd, by omega, fun H2 v s2 hh => ?_⟩
    walk_at "sy"
    refine ⟨v, ts, rfl, hh, by omega, by omega, fun H3 g gs s3 ng hg tg => ?_⟩
    have hfl := folOf_len ts
    have hgl := tg.len
    rw [hfl] at hgl
    walk_at "sy"
    refine ⟨a, ns, 3, rfl, Same.seq (by walk_at "sm") hS, ?_⟩
    walk_at "sy"
    have m0 := Int.emod_nonneg (cellF ns 3) (by decide : (25 : Int) ≠ 0)
    have m1 := Int.emod_lt_of_pos (cellF ns 3) (by decide : (0 : Int) < 25)
    walk_at "sy"
    refine k_lcR (fun D i Hx => ∃ bs : List Int, Same H3 Hx ∧ Hx D = some (.lst (bs.map V.int)) ∧ bs.length = i ∧ isBits bs) (fun D Hx n => ⟨[], n.same, n.at_, rfl, fun b hb => by cases hb⟩) ?_ ?_
    · rintro D hD i Hx hi ⟨bs, sx, hDx, hbl, hbits⟩
      walk_at "sy"
      refine ⟨a, ns, 2, rfl, Same.seq (by walk_at "sm") hS, ?_⟩
      walk_at "sy"
      rw [Int.zero_add]
      refine ⟨cellF ns 2, i, rfl, ?_⟩
      walk_at "sy"
      rename_i Hy cy
      have z0 := Int.emod_nonneg (mixF (cellF ns 2) i) (by decide : (3 : Int) ≠ 0)
      have z1 := Int.emod_lt_of_pos (mixF (cellF ns 2) i) (by decide : (0 : Int) < 3)
      refine ⟨bs ++ [mixF (cellF ns 2) i % 3 / 2], cy.sameOwn sx hD, ?_, by simp [hbl], fun b hb => ?_⟩
      · rw [List.map_append]
        exact cy.at_
      · rcases List.mem_append.mp hb with hb | hb
        · exact hbits b hb
        · obtain rfl : b = _ := by simpa using hb
          omega
    · rintro D hD H4 ⟨bs, s4, hb4, hbl, hbits⟩
      have hbl2 : bs.length ≤ 24 := by omega
      walk_at "sy"
      rename_i lf H5 n5
      have hne : D ≠ lf := (New.ne n5 hb4).symm
      refine ⟨r, D, lf, 0, cnts ts, cnts ts, ws, [], ts, bs, [], folOf ts, rfl, by walk_at "look", TellsAt.keep (by walk_at "kp") tt, by omega, by omega, by omega, by walk_at "look", hbits, by walk_at "look", KnsAt.nil, hne, fun i f h => by rw [Nat.zero_add]; exact h, by simp only [List.length_nil]; omega, fun H6 back bs6 l fv kp6 hb6 _ _ hf6 hkn htr hcap => ?_⟩
      have e0 : bg ts 0 (cnts ts) = 0 := by
        cases ts with
        | nil => rfl
        | cons t ts => rfl
      rw [e0, show (if back = true then cnts ts else cnts ts) = cnts ts by split <;> rfl] at htr
      rw [List.nil_append] at hkn
      have hfvl := hkn.1
      have hll : l.length ≤ 30000 := by omega
      walk_at "sy"
      refine k_lcL fv (fun D2 i Hx => Same H6 Hx ∧ Hx D2 = some (.lst (vN ((l.take i).map (·.1))))) (fun D2 Hx n => ⟨n.same, n.at_⟩) (fun D2 i Hx _ h => SqL.of (h.1 _ _ hf6)) ?_ ?_
      · rintro D2 hD2 i x Hx hx ⟨sx, hdx⟩
        obtain ⟨p, b, hp, rfl, hb⟩ := hkn.get hx
        have hi := (List.getElem?_eq_some_iff.mp hp).1
        have hb' := sx _ _ hb
        have hlx : (vN ((l.take i).map (·.1))).length ≤ 30000 := by rw [vN_len, List.length_map, List.length_take]; omega
        walk_at "sy"
        rename_i Hy cy
        refine ⟨cy.sameOwn sx hD2, ?_⟩
        rw [kn_fst hp]
        exact cy.at_
      · rintro D2 hD2 H7 ⟨s7, hd7⟩
        rw [hfvl, List.take_length] at hd7
        have hlx : (vN (l.map (·.1))).length ≤ 30000 := by rw [vN_len, List.length_map]; omega
        have hg7 := s7 _ _ (kp6 _ _ (n5.get (s4 _ _ hg)) trivial)
        walk_at "sy"
        rename_i lp H8 n8 line H9 n9
        have ez : vN (l.map (·.1)) ++ [V.int (gs.length : Int)] = vN (l.map (·.1) ++ [cnts ts]) := by
          unfold vN
          rw [List.map_append, hgl]
          rfl
        rw [ez] at n9
        have hvl : (vN (l.map (·.1) ++ [cnts ts])).length = l.length + 1 := by rw [vN_len]; simp
        have kp9 : Keep H3 H9 := by walk_at "kp"
        have hh9 := hh.keep (Keep.trans (Keep.of s3) kp9)
        have hl9 := n9.at_
        refine ⟨v, line, ts, _, rfl, hh9, hd, by omega, SqL.of (by rw [← vN_int]; exact n9.at_), fun H10 b s10 hbw => ?_⟩
        obtain rfl : b = true := hbw.mpr htr.way
        walk_at "sy"
        have hf10 : H10 lf = some (.lst fv) := by walk_at "look"
        obtain ⟨i1, i2, i3, i4⟩ := htr.zs
        refine k_forR (fun i σ Hx => ∃ v4 : Option V, σ = [some (.ref a), some (.ref r), some v, some (.ref g), v4, some (.ref D), some (.ref lf), some (.ref line), none, none, none, none] ∧ Hx = H10) ⟨_, rfl, rfl⟩ ?_ ?_
        · rintro i σ Hx hi ⟨v4, rfl, rfl⟩
          rw [Int.zero_add]
          rw [Int.toNat_natCast, hfvl] at hi
          obtain ⟨x, hx⟩ : ∃ x, l[i]? = some x := ⟨_, List.getElem?_eq_getElem hi⟩
          obtain ⟨b, hb1, hb2⟩ := hkn.2 i x hx
          obtain ⟨f, n, j1, j2, j3⟩ := i4 i x hx
          obtain ⟨pf, j4, j5⟩ := tg.get j1
          have j6 := vN_at j2
          have j7 : atI (vN (l.map (·.1) ++ [cnts ts])) ((i : Int) + 1) = some (.int (n : Int)) := atI_nat (j := i + 1) (vN_at j3)
          have hb3 : Hx b = some (.tup [.int (x.1 : Int), .int (x.2 : Int)]) := by walk_at "look"
          have hpf3 : Hx pf = some (.tup (vN f)) := by walk_at "look"
          walk_at "sy"
          refine iteBF (by simp) ?_
          walk_at "sy"
          exact ⟨_, rfl, rfl⟩
        · rintro σ Hx ⟨v4, rfl, rfl⟩
          have j0 : atI (vN (l.map (·.1) ++ [cnts ts])) 0 = some (.int ((0 : Nat) : Int)) := atI_nat (j := 0) (vN_at i1)
          have j1 : atI (vN (l.map (·.1) ++ [cnts ts])) (-1) = some (.int (cnts ts : Int)) := by
            unfold vN
            rw [List.map_append]
            exact atI_last _ _
          obtain ⟨k, hk1, hk2⟩ := (htr.wk (a := (0, 0)) (i := 0) rfl).least
          rw [Nat.zero_add] at hk1
          have ha0 : ((0, 0) : Kn) ∈ uniN (cnts ts) := uniN_mem (Nat.zero_le _)
          have hk3 := atD_togo ha0 (fun q p h => nbN_uni (ts := ts) q p h) k _ hk2
          have hk4 := togo_zero (nb := nbN (folOf ts)) (a := (0, 0)) (uniN (cnts ts)) 0
          rw [uniN_len] at hk4
          walk_at "sy"
          refine ⟨v, ts, 0, cnts ts, rfl, hh9.keep (Keep.of s10), by omega, by omega, Nat.zero_le _, Nat.le_refl _, fun h => absurd hk2 (h k), fun k' hk' _ H11 near kn1 s11 hn11 w1 w2 w3 w4 => ?_⟩
          obtain rfl := hk'.uniq hk2
          walk_at "sy"
          rename_i t0 Ha na l0 Hb nb lt Hc nc
          have et : (List.replicate ((gs.length : Int)).toNat [V.ref t0]).flatten = List.replicate (cnts ts) (V.ref t0) := by
            rw [Int.toNat_natCast, hgl, List.flatten_replicate_singleton]
          rw [et] at nc
          have hst : KnsAt Hc (stay (cnts ts)) (List.replicate (cnts ts) (.ref t0)) := stay_at _ (by walk_at "look")
          refine ⟨v, ts, lt, _, stay (cnts ts), 0, cnts ts, 0, rfl, (hh9.keep (Keep.of s10)).keep (by walk_at "kp"), by omega, by omega, nc.at_, hst, by simp [stay], stay_bits _, Nat.zero_le _, Nat.le_refl _, Nat.zero_le _, fun h => absurd (atD_T hk2) (h k'), fun k2 hk2' _ H14 kept kn2 s14 hn14 x1 x2 x3 x4 => ?_⟩
          obtain rfl := hk2'.uniq (atD_T hk2)
          have y1 : (vN (kn1.map (·.1))).length = k2 + 1 := by rw [vN_len, List.length_map, w4]
          have y2 : (vN (kn2.map (·.1))).length = k2 + 1 := by rw [vN_len, List.length_map, x4]
          walk_at "sy"
          refine ⟨v, kept, ts, _, rfl, ((hh9.keep (Keep.of s10)).keep (Keep.trans (Keep.of s11) (by walk_at "kp"))), hd, by omega, SqL.of (by rw [← vN_int]; exact hn14), fun H15 b s15 hbw => ?_⟩
          obtain rfl : b = true := hbw.mpr (wayT_of x1 x2)
          walk_at "sy"
          exact q _
end
theorem all_mk {l : PySem.W.OpenLaw} {w : World} {K : PySem.W.Frag} {h : Heap} {mg : Str → Option Value} {fa a_BackRow a_TellRow a_IfRow a_WhileRow a_Helper f_count_of f_link f_begin_of f_followers_of f_all_told f_Row_inner f_BackRow_init f_BackRow_told f_TellRow_init f_TellRow_told f_IfRow_init f_IfRow_told f_IfRow_inner f_WhileRow_init f_WhileRow_told f_WhileRow_inner f_rows_of f_block_of f_row_of f_Helper_init f_l_cell f_l_mixed f_l_tree f_l_helper f_l_flat f_l_walk f_is_way f_traced f_nearest f_tracked f_l_bit f_l_run f_law : Addr} (X : K.In h) (G : h.Ns mainGlobals mg) (hfa : mg "law" = some (.ref fa))
    {od_count_of an_count_of od_link an_link od_begin_of an_begin_of od_followers_of an_followers_of od_all_told an_all_told od_Row_inner an_Row_inner od_BackRow_init an_BackRow_init od_BackRow_told an_BackRow_told od_TellRow_init an_TellRow_init od_TellRow_told an_TellRow_told od_IfRow_init an_IfRow_init od_IfRow_told an_IfRow_told od_IfRow_inner an_IfRow_inner od_WhileRow_init an_WhileRow_init od_WhileRow_told an_WhileRow_told od_WhileRow_inner an_WhileRow_inner od_rows_of an_rows_of od_block_of an_block_of od_row_of an_row_of od_Helper_init an_Helper_init od_l_cell an_l_cell od_l_mixed an_l_mixed od_l_tree an_l_tree od_l_helper an_l_helper od_l_flat an_l_flat od_l_walk an_l_walk od_is_way an_is_way od_traced an_traced od_nearest an_nearest od_tracked an_tracked od_l_bit an_l_bit od_l_run an_l_run od_law an_law : Option Addr} {sl_count_of sl_link sl_begin_of sl_followers_of sl_all_told sl_Row_inner sl_BackRow_init sl_BackRow_told sl_TellRow_init sl_TellRow_told sl_IfRow_init sl_IfRow_told sl_IfRow_inner sl_WhileRow_init sl_WhileRow_told sl_WhileRow_inner sl_rows_of sl_block_of sl_row_of sl_Helper_init sl_l_cell sl_l_mixed sl_l_tree sl_l_helper sl_l_flat sl_l_walk sl_is_way sl_traced sl_nearest sl_tracked sl_l_bit sl_l_run sl_law : Array (Option Value)} {oc_count_of kV_count_of dc_count_of pm_count_of cd_count_of ct_count_of oc_link kV_link dc_link pm_link cd_link ct_link oc_begin_of kV_begin_of dc_begin_of pm_begin_of cd_begin_of ct_begin_of oc_followers_of kV_followers_of dc_followers_of pm_followers_of cd_followers_of ct_followers_of oc_all_told kV_all_told dc_all_told pm_all_told cd_all_told ct_all_told oc_Row_inner kV_Row_inner dc_Row_inner pm_Row_inner cd_Row_inner ct_Row_inner oc_BackRow_init kV_BackRow_init dc_BackRow_init pm_BackRow_init cd_BackRow_init ct_BackRow_init oc_BackRow_told kV_BackRow_told dc_BackRow_told pm_BackRow_told cd_BackRow_told ct_BackRow_told oc_TellRow_init kV_TellRow_init dc_TellRow_init pm_TellRow_init cd_TellRow_init ct_TellRow_init oc_TellRow_told kV_TellRow_told dc_TellRow_told pm_TellRow_told cd_TellRow_told ct_TellRow_told oc_IfRow_init kV_IfRow_init dc_IfRow_init pm_IfRow_init cd_IfRow_init ct_IfRow_init oc_IfRow_told kV_IfRow_told dc_IfRow_told pm_IfRow_told cd_IfRow_told ct_IfRow_told oc_IfRow_inner kV_IfRow_inner dc_IfRow_inner pm_IfRow_inner cd_IfRow_inner ct_IfRow_inner oc_WhileRow_init kV_WhileRow_init dc_WhileRow_init pm_WhileRow_init cd_WhileRow_init ct_WhileRow_init oc_WhileRow_told kV_WhileRow_told dc_WhileRow_told pm_WhileRow_told cd_WhileRow_told ct_WhileRow_told oc_WhileRow_inner kV_WhileRow_inner dc_WhileRow_inner pm_WhileRow_inner cd_WhileRow_inner ct_WhileRow_inner oc_rows_of kV_rows_of dc_rows_of pm_rows_of cd_rows_of ct_rows_of oc_block_of kV_block_of dc_block_of pm_block_of cd_block_of ct_block_of oc_row_of kV_row_of dc_row_of pm_row_of cd_row_of ct_row_of oc_Helper_init kV_Helper_init dc_Helper_init pm_Helper_init cd_Helper_init ct_Helper_init oc_l_cell kV_l_cell dc_l_cell pm_l_cell cd_l_cell ct_l_cell oc_l_mixed kV_l_mixed dc_l_mixed pm_l_mixed cd_l_mixed ct_l_mixed oc_l_tree kV_l_tree dc_l_tree pm_l_tree cd_l_tree ct_l_tree oc_l_helper kV_l_helper dc_l_helper pm_l_helper cd_l_helper ct_l_helper oc_l_flat kV_l_flat dc_l_flat pm_l_flat cd_l_flat ct_l_flat oc_l_walk kV_l_walk dc_l_walk pm_l_walk cd_l_walk ct_l_walk oc_is_way kV_is_way dc_is_way pm_is_way cd_is_way ct_is_way oc_traced kV_traced dc_traced pm_traced cd_traced ct_traced oc_nearest kV_nearest dc_nearest pm_nearest cd_nearest ct_nearest oc_tracked kV_tracked dc_tracked pm_tracked cd_tracked ct_tracked oc_l_bit kV_l_bit dc_l_bit pm_l_bit cd_l_bit ct_l_bit oc_l_run kV_l_run dc_l_run pm_l_run cd_l_run ct_l_run oc_law kV_law dc_law pm_law cd_law ct_law : Value}
    (zn_range : PySem.W.nsIn K mainGlobals "range" = some none)
    (zn_len : PySem.W.nsIn K mainGlobals "len" = some none)
    (zn_tuple : PySem.W.nsIn K mainGlobals "tuple" = some none)
    (zn_divmod : PySem.W.nsIn K mainGlobals "divmod" = some none)
    (zn_int : PySem.W.nsIn K mainGlobals "int" = some none)
    (zn_zip : PySem.W.nsIn K mainGlobals "zip" = some none)
    (zc_BackRow : PySem.W.nsIn K mainGlobals "BackRow" = some (some (.ref a_BackRow)))
    (zpg_BackRow : PySem.W.plainGet K a_BackRow Str.empty = true)
    (zhd_BackRow : PySem.W.hasDictIn K a_BackRow = true)
    (zpo_BackRow : PySem.W.plainOver K a_BackRow = true)
    (zsa_BackRow : PySem.W.findIn K (.ref a_BackRow) "__setattr__" = some (some (.builtin "object.__setattr__")))
    (zmk_BackRow : PySem.W.makesIn K a_BackRow = true)
    (zkc_BackRow : PySem.W.keepIn K (.ref a_BackRow) = true)
    (zna_BackRow_atom : PySem.W.findIn K (.ref a_BackRow) "atom" = some none)
    (zc_TellRow : PySem.W.nsIn K mainGlobals "TellRow" = some (some (.ref a_TellRow)))
    (zpg_TellRow : PySem.W.plainGet K a_TellRow Str.empty = true)
    (zhd_TellRow : PySem.W.hasDictIn K a_TellRow = true)
    (zpo_TellRow : PySem.W.plainOver K a_TellRow = true)
    (zsa_TellRow : PySem.W.findIn K (.ref a_TellRow) "__setattr__" = some (some (.builtin "object.__setattr__")))
    (zmk_TellRow : PySem.W.makesIn K a_TellRow = true)
    (zkc_TellRow : PySem.W.keepIn K (.ref a_TellRow) = true)
    (zna_TellRow_atom : PySem.W.findIn K (.ref a_TellRow) "atom" = some none)
    (zc_IfRow : PySem.W.nsIn K mainGlobals "IfRow" = some (some (.ref a_IfRow)))
    (zpg_IfRow : PySem.W.plainGet K a_IfRow Str.empty = true)
    (zhd_IfRow : PySem.W.hasDictIn K a_IfRow = true)
    (zpo_IfRow : PySem.W.plainOver K a_IfRow = true)
    (zsa_IfRow : PySem.W.findIn K (.ref a_IfRow) "__setattr__" = some (some (.builtin "object.__setattr__")))
    (zmk_IfRow : PySem.W.makesIn K a_IfRow = true)
    (zkc_IfRow : PySem.W.keepIn K (.ref a_IfRow) = true)
    (zna_IfRow_atom : PySem.W.findIn K (.ref a_IfRow) "atom" = some none)
    (zna_IfRow_rows : PySem.W.findIn K (.ref a_IfRow) "rows" = some none)
    (zna_IfRow_others : PySem.W.findIn K (.ref a_IfRow) "others" = some none)
    (zc_WhileRow : PySem.W.nsIn K mainGlobals "WhileRow" = some (some (.ref a_WhileRow)))
    (zpg_WhileRow : PySem.W.plainGet K a_WhileRow Str.empty = true)
    (zhd_WhileRow : PySem.W.hasDictIn K a_WhileRow = true)
    (zpo_WhileRow : PySem.W.plainOver K a_WhileRow = true)
    (zsa_WhileRow : PySem.W.findIn K (.ref a_WhileRow) "__setattr__" = some (some (.builtin "object.__setattr__")))
    (zmk_WhileRow : PySem.W.makesIn K a_WhileRow = true)
    (zkc_WhileRow : PySem.W.keepIn K (.ref a_WhileRow) = true)
    (zna_WhileRow_atom : PySem.W.findIn K (.ref a_WhileRow) "atom" = some none)
    (zna_WhileRow_rows : PySem.W.findIn K (.ref a_WhileRow) "rows" = some none)
    (zc_Helper : PySem.W.nsIn K mainGlobals "Helper" = some (some (.ref a_Helper)))
    (zpg_Helper : PySem.W.plainGet K a_Helper Str.empty = true)
    (zhd_Helper : PySem.W.hasDictIn K a_Helper = true)
    (zpo_Helper : PySem.W.plainOver K a_Helper = true)
    (zsa_Helper : PySem.W.findIn K (.ref a_Helper) "__setattr__" = some (some (.builtin "object.__setattr__")))
    (zmk_Helper : PySem.W.makesIn K a_Helper = true)
    (zkc_Helper : PySem.W.keepIn K (.ref a_Helper) = true)
    (zna_Helper_name : PySem.W.findIn K (.ref a_Helper) "name" = some none)
    (zna_Helper_params : PySem.W.findIn K (.ref a_Helper) "params" = some none)
    (zna_Helper_gives : PySem.W.findIn K (.ref a_Helper) "gives" = some none)
    (zna_Helper_rows : PySem.W.findIn K (.ref a_Helper) "rows" = some none)
    (za_count_of : PySem.W.nsIn K mainGlobals "count_of" = some (some (.ref f_count_of)))
    (zl_count_of : K.lookup f_count_of = some ⟨oc_count_of, od_count_of, .func (PySem.W.fnOf "count_of" "count_of" (defArgs s_count_of) (defBody s_count_of) (defScope s_count_of) .none kV_count_of dc_count_of pm_count_of an_count_of cd_count_of ct_count_of), sl_count_of⟩)
    (zd_count_of : PySem.W.codeIn K cd_count_of "count_of" = true)
    (zk_count_of : PySem.W.keepIn K (.ref f_count_of) = true)
    (za_link : PySem.W.nsIn K mainGlobals "link" = some (some (.ref f_link)))
    (zl_link : K.lookup f_link = some ⟨oc_link, od_link, .func (PySem.W.fnOf "link" "link" (defArgs s_link) (defBody s_link) (defScope s_link) .none kV_link dc_link pm_link an_link cd_link ct_link), sl_link⟩)
    (zd_link : PySem.W.codeIn K cd_link "link" = true)
    (zk_link : PySem.W.keepIn K (.ref f_link) = true)
    (za_begin_of : PySem.W.nsIn K mainGlobals "begin_of" = some (some (.ref f_begin_of)))
    (zl_begin_of : K.lookup f_begin_of = some ⟨oc_begin_of, od_begin_of, .func (PySem.W.fnOf "begin_of" "begin_of" (defArgs s_begin_of) (defBody s_begin_of) (defScope s_begin_of) .none kV_begin_of dc_begin_of pm_begin_of an_begin_of cd_begin_of ct_begin_of), sl_begin_of⟩)
    (zd_begin_of : PySem.W.codeIn K cd_begin_of "begin_of" = true)
    (zk_begin_of : PySem.W.keepIn K (.ref f_begin_of) = true)
    (za_followers_of : PySem.W.nsIn K mainGlobals "followers_of" = some (some (.ref f_followers_of)))
    (zl_followers_of : K.lookup f_followers_of = some ⟨oc_followers_of, od_followers_of, .func (PySem.W.fnOf "followers_of" "followers_of" (defArgs s_followers_of) (defBody s_followers_of) (defScope s_followers_of) .none kV_followers_of dc_followers_of pm_followers_of an_followers_of cd_followers_of ct_followers_of), sl_followers_of⟩)
    (zd_followers_of : PySem.W.codeIn K cd_followers_of "followers_of" = true)
    (zk_followers_of : PySem.W.keepIn K (.ref f_followers_of) = true)
    (za_all_told : PySem.W.nsIn K mainGlobals "all_told" = some (some (.ref f_all_told)))
    (zl_all_told : K.lookup f_all_told = some ⟨oc_all_told, od_all_told, .func (PySem.W.fnOf "all_told" "all_told" (defArgs s_all_told) (defBody s_all_told) (defScope s_all_told) .none kV_all_told dc_all_told pm_all_told an_all_told cd_all_told ct_all_told), sl_all_told⟩)
    (zd_all_told : PySem.W.codeIn K cd_all_told "all_told" = true)
    (zk_all_told : PySem.W.keepIn K (.ref f_all_told) = true)
    (zm_BackRow_inner : PySem.W.findIn K (.ref a_BackRow) "inner" = some (some (.ref f_Row_inner)))
    (zm_TellRow_inner : PySem.W.findIn K (.ref a_TellRow) "inner" = some (some (.ref f_Row_inner)))
    (zi_Row_inner : PySem.W.isFn K (.ref f_Row_inner) = true)
    (zl_Row_inner : K.lookup f_Row_inner = some ⟨oc_Row_inner, od_Row_inner, .func (PySem.W.fnOf "inner" "Row.inner" (defArgs s_Row_inner) (defBody s_Row_inner) (defScope s_Row_inner) .none kV_Row_inner dc_Row_inner pm_Row_inner an_Row_inner cd_Row_inner ct_Row_inner), sl_Row_inner⟩)
    (zd_Row_inner : PySem.W.codeIn K cd_Row_inner "Row.inner" = true)
    (zk_Row_inner : PySem.W.keepIn K (.ref f_Row_inner) = true)
    (za_BackRow_init : PySem.W.findIn K (.ref a_BackRow) "__init__" = some (some (.ref f_BackRow_init)))
    (zi_BackRow_init : PySem.W.isFn K (.ref f_BackRow_init) = true)
    (zl_BackRow_init : K.lookup f_BackRow_init = some ⟨oc_BackRow_init, od_BackRow_init, .func (PySem.W.fnOf "__init__" "BackRow.__init__" (defArgs s_BackRow_init) (defBody s_BackRow_init) (defScope s_BackRow_init) .none kV_BackRow_init dc_BackRow_init pm_BackRow_init an_BackRow_init cd_BackRow_init ct_BackRow_init), sl_BackRow_init⟩)
    (zd_BackRow_init : PySem.W.codeIn K cd_BackRow_init "BackRow.__init__" = true)
    (zk_BackRow_init : PySem.W.keepIn K (.ref f_BackRow_init) = true)
    (zm_BackRow_told : PySem.W.findIn K (.ref a_BackRow) "told" = some (some (.ref f_BackRow_told)))
    (zi_BackRow_told : PySem.W.isFn K (.ref f_BackRow_told) = true)
    (zl_BackRow_told : K.lookup f_BackRow_told = some ⟨oc_BackRow_told, od_BackRow_told, .func (PySem.W.fnOf "told" "BackRow.told" (defArgs s_BackRow_told) (defBody s_BackRow_told) (defScope s_BackRow_told) .none kV_BackRow_told dc_BackRow_told pm_BackRow_told an_BackRow_told cd_BackRow_told ct_BackRow_told), sl_BackRow_told⟩)
    (zd_BackRow_told : PySem.W.codeIn K cd_BackRow_told "BackRow.told" = true)
    (zk_BackRow_told : PySem.W.keepIn K (.ref f_BackRow_told) = true)
    (za_TellRow_init : PySem.W.findIn K (.ref a_TellRow) "__init__" = some (some (.ref f_TellRow_init)))
    (zi_TellRow_init : PySem.W.isFn K (.ref f_TellRow_init) = true)
    (zl_TellRow_init : K.lookup f_TellRow_init = some ⟨oc_TellRow_init, od_TellRow_init, .func (PySem.W.fnOf "__init__" "TellRow.__init__" (defArgs s_TellRow_init) (defBody s_TellRow_init) (defScope s_TellRow_init) .none kV_TellRow_init dc_TellRow_init pm_TellRow_init an_TellRow_init cd_TellRow_init ct_TellRow_init), sl_TellRow_init⟩)
    (zd_TellRow_init : PySem.W.codeIn K cd_TellRow_init "TellRow.__init__" = true)
    (zk_TellRow_init : PySem.W.keepIn K (.ref f_TellRow_init) = true)
    (zm_TellRow_told : PySem.W.findIn K (.ref a_TellRow) "told" = some (some (.ref f_TellRow_told)))
    (zi_TellRow_told : PySem.W.isFn K (.ref f_TellRow_told) = true)
    (zl_TellRow_told : K.lookup f_TellRow_told = some ⟨oc_TellRow_told, od_TellRow_told, .func (PySem.W.fnOf "told" "TellRow.told" (defArgs s_TellRow_told) (defBody s_TellRow_told) (defScope s_TellRow_told) .none kV_TellRow_told dc_TellRow_told pm_TellRow_told an_TellRow_told cd_TellRow_told ct_TellRow_told), sl_TellRow_told⟩)
    (zd_TellRow_told : PySem.W.codeIn K cd_TellRow_told "TellRow.told" = true)
    (zk_TellRow_told : PySem.W.keepIn K (.ref f_TellRow_told) = true)
    (za_IfRow_init : PySem.W.findIn K (.ref a_IfRow) "__init__" = some (some (.ref f_IfRow_init)))
    (zi_IfRow_init : PySem.W.isFn K (.ref f_IfRow_init) = true)
    (zl_IfRow_init : K.lookup f_IfRow_init = some ⟨oc_IfRow_init, od_IfRow_init, .func (PySem.W.fnOf "__init__" "IfRow.__init__" (defArgs s_IfRow_init) (defBody s_IfRow_init) (defScope s_IfRow_init) .none kV_IfRow_init dc_IfRow_init pm_IfRow_init an_IfRow_init cd_IfRow_init ct_IfRow_init), sl_IfRow_init⟩)
    (zd_IfRow_init : PySem.W.codeIn K cd_IfRow_init "IfRow.__init__" = true)
    (zk_IfRow_init : PySem.W.keepIn K (.ref f_IfRow_init) = true)
    (zm_IfRow_told : PySem.W.findIn K (.ref a_IfRow) "told" = some (some (.ref f_IfRow_told)))
    (zi_IfRow_told : PySem.W.isFn K (.ref f_IfRow_told) = true)
    (zl_IfRow_told : K.lookup f_IfRow_told = some ⟨oc_IfRow_told, od_IfRow_told, .func (PySem.W.fnOf "told" "IfRow.told" (defArgs s_IfRow_told) (defBody s_IfRow_told) (defScope s_IfRow_told) .none kV_IfRow_told dc_IfRow_told pm_IfRow_told an_IfRow_told cd_IfRow_told ct_IfRow_told), sl_IfRow_told⟩)
    (zd_IfRow_told : PySem.W.codeIn K cd_IfRow_told "IfRow.told" = true)
    (zk_IfRow_told : PySem.W.keepIn K (.ref f_IfRow_told) = true)
    (zm_IfRow_inner : PySem.W.findIn K (.ref a_IfRow) "inner" = some (some (.ref f_IfRow_inner)))
    (zi_IfRow_inner : PySem.W.isFn K (.ref f_IfRow_inner) = true)
    (zl_IfRow_inner : K.lookup f_IfRow_inner = some ⟨oc_IfRow_inner, od_IfRow_inner, .func (PySem.W.fnOf "inner" "IfRow.inner" (defArgs s_IfRow_inner) (defBody s_IfRow_inner) (defScope s_IfRow_inner) .none kV_IfRow_inner dc_IfRow_inner pm_IfRow_inner an_IfRow_inner cd_IfRow_inner ct_IfRow_inner), sl_IfRow_inner⟩)
    (zd_IfRow_inner : PySem.W.codeIn K cd_IfRow_inner "IfRow.inner" = true)
    (zk_IfRow_inner : PySem.W.keepIn K (.ref f_IfRow_inner) = true)
    (za_WhileRow_init : PySem.W.findIn K (.ref a_WhileRow) "__init__" = some (some (.ref f_WhileRow_init)))
    (zi_WhileRow_init : PySem.W.isFn K (.ref f_WhileRow_init) = true)
    (zl_WhileRow_init : K.lookup f_WhileRow_init = some ⟨oc_WhileRow_init, od_WhileRow_init, .func (PySem.W.fnOf "__init__" "WhileRow.__init__" (defArgs s_WhileRow_init) (defBody s_WhileRow_init) (defScope s_WhileRow_init) .none kV_WhileRow_init dc_WhileRow_init pm_WhileRow_init an_WhileRow_init cd_WhileRow_init ct_WhileRow_init), sl_WhileRow_init⟩)
    (zd_WhileRow_init : PySem.W.codeIn K cd_WhileRow_init "WhileRow.__init__" = true)
    (zk_WhileRow_init : PySem.W.keepIn K (.ref f_WhileRow_init) = true)
    (zm_WhileRow_told : PySem.W.findIn K (.ref a_WhileRow) "told" = some (some (.ref f_WhileRow_told)))
    (zi_WhileRow_told : PySem.W.isFn K (.ref f_WhileRow_told) = true)
    (zl_WhileRow_told : K.lookup f_WhileRow_told = some ⟨oc_WhileRow_told, od_WhileRow_told, .func (PySem.W.fnOf "told" "WhileRow.told" (defArgs s_WhileRow_told) (defBody s_WhileRow_told) (defScope s_WhileRow_told) .none kV_WhileRow_told dc_WhileRow_told pm_WhileRow_told an_WhileRow_told cd_WhileRow_told ct_WhileRow_told), sl_WhileRow_told⟩)
    (zd_WhileRow_told : PySem.W.codeIn K cd_WhileRow_told "WhileRow.told" = true)
    (zk_WhileRow_told : PySem.W.keepIn K (.ref f_WhileRow_told) = true)
    (zm_WhileRow_inner : PySem.W.findIn K (.ref a_WhileRow) "inner" = some (some (.ref f_WhileRow_inner)))
    (zi_WhileRow_inner : PySem.W.isFn K (.ref f_WhileRow_inner) = true)
    (zl_WhileRow_inner : K.lookup f_WhileRow_inner = some ⟨oc_WhileRow_inner, od_WhileRow_inner, .func (PySem.W.fnOf "inner" "WhileRow.inner" (defArgs s_WhileRow_inner) (defBody s_WhileRow_inner) (defScope s_WhileRow_inner) .none kV_WhileRow_inner dc_WhileRow_inner pm_WhileRow_inner an_WhileRow_inner cd_WhileRow_inner ct_WhileRow_inner), sl_WhileRow_inner⟩)
    (zd_WhileRow_inner : PySem.W.codeIn K cd_WhileRow_inner "WhileRow.inner" = true)
    (zk_WhileRow_inner : PySem.W.keepIn K (.ref f_WhileRow_inner) = true)
    (za_rows_of : PySem.W.nsIn K mainGlobals "rows_of" = some (some (.ref f_rows_of)))
    (zl_rows_of : K.lookup f_rows_of = some ⟨oc_rows_of, od_rows_of, .func (PySem.W.fnOf "rows_of" "rows_of" (defArgs s_rows_of) (defBody s_rows_of) (defScope s_rows_of) .none kV_rows_of dc_rows_of pm_rows_of an_rows_of cd_rows_of ct_rows_of), sl_rows_of⟩)
    (zd_rows_of : PySem.W.codeIn K cd_rows_of "rows_of" = true)
    (zk_rows_of : PySem.W.keepIn K (.ref f_rows_of) = true)
    (za_block_of : PySem.W.nsIn K mainGlobals "block_of" = some (some (.ref f_block_of)))
    (zl_block_of : K.lookup f_block_of = some ⟨oc_block_of, od_block_of, .func (PySem.W.fnOf "block_of" "block_of" (defArgs s_block_of) (defBody s_block_of) (defScope s_block_of) .none kV_block_of dc_block_of pm_block_of an_block_of cd_block_of ct_block_of), sl_block_of⟩)
    (zd_block_of : PySem.W.codeIn K cd_block_of "block_of" = true)
    (zk_block_of : PySem.W.keepIn K (.ref f_block_of) = true)
    (za_row_of : PySem.W.nsIn K mainGlobals "row_of" = some (some (.ref f_row_of)))
    (zl_row_of : K.lookup f_row_of = some ⟨oc_row_of, od_row_of, .func (PySem.W.fnOf "row_of" "row_of" (defArgs s_row_of) (defBody s_row_of) (defScope s_row_of) .none kV_row_of dc_row_of pm_row_of an_row_of cd_row_of ct_row_of), sl_row_of⟩)
    (zd_row_of : PySem.W.codeIn K cd_row_of "row_of" = true)
    (zk_row_of : PySem.W.keepIn K (.ref f_row_of) = true)
    (za_Helper_init : PySem.W.findIn K (.ref a_Helper) "__init__" = some (some (.ref f_Helper_init)))
    (zi_Helper_init : PySem.W.isFn K (.ref f_Helper_init) = true)
    (zl_Helper_init : K.lookup f_Helper_init = some ⟨oc_Helper_init, od_Helper_init, .func (PySem.W.fnOf "__init__" "Helper.__init__" (defArgs s_Helper_init) (defBody s_Helper_init) (defScope s_Helper_init) .none kV_Helper_init dc_Helper_init pm_Helper_init an_Helper_init cd_Helper_init ct_Helper_init), sl_Helper_init⟩)
    (zd_Helper_init : PySem.W.codeIn K cd_Helper_init "Helper.__init__" = true)
    (zk_Helper_init : PySem.W.keepIn K (.ref f_Helper_init) = true)
    (za_l_cell : PySem.W.nsIn K mainGlobals "_law_cell" = some (some (.ref f_l_cell)))
    (zl_l_cell : K.lookup f_l_cell = some ⟨oc_l_cell, od_l_cell, .func (PySem.W.fnOf "_law_cell" "_law_cell" (defArgs s_l_cell) (defBody s_l_cell) (defScope s_l_cell) .none kV_l_cell dc_l_cell pm_l_cell an_l_cell cd_l_cell ct_l_cell), sl_l_cell⟩)
    (zd_l_cell : PySem.W.codeIn K cd_l_cell "_law_cell" = true)
    (zk_l_cell : PySem.W.keepIn K (.ref f_l_cell) = true)
    (za_l_mixed : PySem.W.nsIn K mainGlobals "_law_mixed" = some (some (.ref f_l_mixed)))
    (zl_l_mixed : K.lookup f_l_mixed = some ⟨oc_l_mixed, od_l_mixed, .func (PySem.W.fnOf "_law_mixed" "_law_mixed" (defArgs s_l_mixed) (defBody s_l_mixed) (defScope s_l_mixed) .none kV_l_mixed dc_l_mixed pm_l_mixed an_l_mixed cd_l_mixed ct_l_mixed), sl_l_mixed⟩)
    (zd_l_mixed : PySem.W.codeIn K cd_l_mixed "_law_mixed" = true)
    (zk_l_mixed : PySem.W.keepIn K (.ref f_l_mixed) = true)
    (za_l_tree : PySem.W.nsIn K mainGlobals "_law_tree" = some (some (.ref f_l_tree)))
    (zl_l_tree : K.lookup f_l_tree = some ⟨oc_l_tree, od_l_tree, .func (PySem.W.fnOf "_law_tree" "_law_tree" (defArgs s_l_tree) (defBody s_l_tree) (defScope s_l_tree) .none kV_l_tree dc_l_tree pm_l_tree an_l_tree cd_l_tree ct_l_tree), sl_l_tree⟩)
    (zd_l_tree : PySem.W.codeIn K cd_l_tree "_law_tree" = true)
    (zk_l_tree : PySem.W.keepIn K (.ref f_l_tree) = true)
    (za_l_helper : PySem.W.nsIn K mainGlobals "_law_helper" = some (some (.ref f_l_helper)))
    (zl_l_helper : K.lookup f_l_helper = some ⟨oc_l_helper, od_l_helper, .func (PySem.W.fnOf "_law_helper" "_law_helper" (defArgs s_l_helper) (defBody s_l_helper) (defScope s_l_helper) .none kV_l_helper dc_l_helper pm_l_helper an_l_helper cd_l_helper ct_l_helper), sl_l_helper⟩)
    (zd_l_helper : PySem.W.codeIn K cd_l_helper "_law_helper" = true)
    (zk_l_helper : PySem.W.keepIn K (.ref f_l_helper) = true)
    (za_l_flat : PySem.W.nsIn K mainGlobals "_law_flat" = some (some (.ref f_l_flat)))
    (zl_l_flat : K.lookup f_l_flat = some ⟨oc_l_flat, od_l_flat, .func (PySem.W.fnOf "_law_flat" "_law_flat" (defArgs s_l_flat) (defBody s_l_flat) (defScope s_l_flat) .none kV_l_flat dc_l_flat pm_l_flat an_l_flat cd_l_flat ct_l_flat), sl_l_flat⟩)
    (zd_l_flat : PySem.W.codeIn K cd_l_flat "_law_flat" = true)
    (zk_l_flat : PySem.W.keepIn K (.ref f_l_flat) = true)
    (za_l_walk : PySem.W.nsIn K mainGlobals "_law_walk" = some (some (.ref f_l_walk)))
    (zl_l_walk : K.lookup f_l_walk = some ⟨oc_l_walk, od_l_walk, .func (PySem.W.fnOf "_law_walk" "_law_walk" (defArgs s_l_walk) (defBody s_l_walk) (defScope s_l_walk) .none kV_l_walk dc_l_walk pm_l_walk an_l_walk cd_l_walk ct_l_walk), sl_l_walk⟩)
    (zd_l_walk : PySem.W.codeIn K cd_l_walk "_law_walk" = true)
    (zk_l_walk : PySem.W.keepIn K (.ref f_l_walk) = true)
    (za_is_way : PySem.W.nsIn K mainGlobals "is_way" = some (some (.ref f_is_way)))
    (zl_is_way : K.lookup f_is_way = some ⟨oc_is_way, od_is_way, .func (PySem.W.fnOf "is_way" "is_way" (defArgs s_is_way) (defBody s_is_way) (defScope s_is_way) .none kV_is_way dc_is_way pm_is_way an_is_way cd_is_way ct_is_way), sl_is_way⟩)
    (zd_is_way : PySem.W.codeIn K cd_is_way "is_way" = true)
    (zk_is_way : PySem.W.keepIn K (.ref f_is_way) = true)
    (za_traced : PySem.W.nsIn K mainGlobals "traced" = some (some (.ref f_traced)))
    (zl_traced : K.lookup f_traced = some ⟨oc_traced, od_traced, .func (PySem.W.fnOf "traced" "traced" (defArgs s_traced) (defBody s_traced) (defScope s_traced) .none kV_traced dc_traced pm_traced an_traced cd_traced ct_traced), sl_traced⟩)
    (zd_traced : PySem.W.codeIn K cd_traced "traced" = true)
    (zk_traced : PySem.W.keepIn K (.ref f_traced) = true)
    (za_nearest : PySem.W.nsIn K mainGlobals "nearest" = some (some (.ref f_nearest)))
    (zl_nearest : K.lookup f_nearest = some ⟨oc_nearest, od_nearest, .func (PySem.W.fnOf "nearest" "nearest" (defArgs s_nearest) (defBody s_nearest) (defScope s_nearest) .none kV_nearest dc_nearest pm_nearest an_nearest cd_nearest ct_nearest), sl_nearest⟩)
    (zd_nearest : PySem.W.codeIn K cd_nearest "nearest" = true)
    (zk_nearest : PySem.W.keepIn K (.ref f_nearest) = true)
    (za_tracked : PySem.W.nsIn K mainGlobals "tracked" = some (some (.ref f_tracked)))
    (zl_tracked : K.lookup f_tracked = some ⟨oc_tracked, od_tracked, .func (PySem.W.fnOf "tracked" "tracked" (defArgs s_tracked) (defBody s_tracked) (defScope s_tracked) .none kV_tracked dc_tracked pm_tracked an_tracked cd_tracked ct_tracked), sl_tracked⟩)
    (zd_tracked : PySem.W.codeIn K cd_tracked "tracked" = true)
    (zk_tracked : PySem.W.keepIn K (.ref f_tracked) = true)
    (za_l_bit : PySem.W.nsIn K mainGlobals "_law_bit" = some (some (.ref f_l_bit)))
    (zl_l_bit : K.lookup f_l_bit = some ⟨oc_l_bit, od_l_bit, .func (PySem.W.fnOf "_law_bit" "_law_bit" (defArgs s_l_bit) (defBody s_l_bit) (defScope s_l_bit) .none kV_l_bit dc_l_bit pm_l_bit an_l_bit cd_l_bit ct_l_bit), sl_l_bit⟩)
    (zd_l_bit : PySem.W.codeIn K cd_l_bit "_law_bit" = true)
    (zk_l_bit : PySem.W.keepIn K (.ref f_l_bit) = true)
    (za_l_run : PySem.W.nsIn K mainGlobals "_law_run" = some (some (.ref f_l_run)))
    (zl_l_run : K.lookup f_l_run = some ⟨oc_l_run, od_l_run, .func (PySem.W.fnOf "_law_run" "_law_run" (defArgs s_l_run) (defBody s_l_run) (defScope s_l_run) .none kV_l_run dc_l_run pm_l_run an_l_run cd_l_run ct_l_run), sl_l_run⟩)
    (zd_l_run : PySem.W.codeIn K cd_l_run "_law_run" = true)
    (zk_l_run : PySem.W.keepIn K (.ref f_l_run) = true)
    (za_law : PySem.W.nsIn K mainGlobals "law" = some (some (.ref f_law)))
    (zl_law : K.lookup f_law = some ⟨oc_law, od_law, .func (PySem.W.fnOf "law" "law" (defArgs s_law) (defBody s_law) (defScope s_law) .none kV_law dc_law pm_law an_law cd_law ct_law), sl_law⟩)
    (zd_law : PySem.W.codeIn K cd_law "law" = true)
    (zk_law : PySem.W.keepIn K (.ref f_law) = true)
    : ∃ fd : FuncData, (∀ (s : Shared) (v : Value), BindsTo s fd ⟨[v], []⟩ [("_law_script", v)]) ∧ ∀ base : Heap, K.In base → base.Ns mainGlobals mg → FnOk l.prog w K mg base CX0 40 fa fd ["_law_script"] (spLaw K) := by
  have e := hfa.symm.trans (PySem.W.mg_of X G za_law)
  cases e
  have F_count_of := fun_mk (st := s_count_of) zl_count_of zd_count_of zk_count_of
  have B_count_of := F_count_of.binds (ps := ["rows"]) fun _ _ _ _ _ _ us hl => match us, hl with | [_], _ => rfl
  have F_link := fun_mk (st := s_link) zl_link zd_link zk_link
  have B_link := F_link.binds (ps := ["rows", "first", "then", "end", "found"]) fun _ _ _ _ _ _ us hl => match us, hl with | [_, _, _, _, _], _ => rfl
  have F_begin_of := fun_mk (st := s_begin_of) zl_begin_of zd_begin_of zk_begin_of
  have B_begin_of := F_begin_of.binds (ps := ["rows", "first", "then"]) fun _ _ _ _ _ _ us hl => match us, hl with | [_, _, _], _ => rfl
  have F_followers_of := fun_mk (st := s_followers_of) zl_followers_of zd_followers_of zk_followers_of
  have B_followers_of := F_followers_of.binds (ps := ["helper"]) fun _ _ _ _ _ _ us hl => match us, hl with | [_], _ => rfl
  have F_all_told := fun_mk (st := s_all_told) zl_all_told zd_all_told zk_all_told
  have B_all_told := F_all_told.binds (ps := ["rows"]) fun _ _ _ _ _ _ us hl => match us, hl with | [_], _ => rfl
  have F_Row_inner := fun_mk (st := s_Row_inner) zl_Row_inner zd_Row_inner zk_Row_inner
  have B_Row_inner := F_Row_inner.binds (ps := ["self"]) fun _ _ _ _ _ _ us hl => match us, hl with | [_], _ => rfl
  have F_BackRow_init := fun_mk (st := s_BackRow_init) zl_BackRow_init zd_BackRow_init zk_BackRow_init
  have B_BackRow_init := F_BackRow_init.binds (ps := ["self", "atom"]) fun _ _ _ _ _ _ us hl => match us, hl with | [_, _], _ => rfl
  have F_BackRow_told := fun_mk (st := s_BackRow_told) zl_BackRow_told zd_BackRow_told zk_BackRow_told
  have B_BackRow_told := F_BackRow_told.binds (ps := ["self"]) fun _ _ _ _ _ _ us hl => match us, hl with | [_], _ => rfl
  have F_TellRow_init := fun_mk (st := s_TellRow_init) zl_TellRow_init zd_TellRow_init zk_TellRow_init
  have B_TellRow_init := F_TellRow_init.binds (ps := ["self", "atom"]) fun _ _ _ _ _ _ us hl => match us, hl with | [_, _], _ => rfl
  have F_TellRow_told := fun_mk (st := s_TellRow_told) zl_TellRow_told zd_TellRow_told zk_TellRow_told
  have B_TellRow_told := F_TellRow_told.binds (ps := ["self"]) fun _ _ _ _ _ _ us hl => match us, hl with | [_], _ => rfl
  have F_IfRow_init := fun_mk (st := s_IfRow_init) zl_IfRow_init zd_IfRow_init zk_IfRow_init
  have B_IfRow_init := F_IfRow_init.binds (ps := ["self", "atom", "rows", "others"]) fun _ _ _ _ _ _ us hl => match us, hl with | [_, _, _, _], _ => rfl
  have F_IfRow_told := fun_mk (st := s_IfRow_told) zl_IfRow_told zd_IfRow_told zk_IfRow_told
  have B_IfRow_told := F_IfRow_told.binds (ps := ["self"]) fun _ _ _ _ _ _ us hl => match us, hl with | [_], _ => rfl
  have F_IfRow_inner := fun_mk (st := s_IfRow_inner) zl_IfRow_inner zd_IfRow_inner zk_IfRow_inner
  have B_IfRow_inner := F_IfRow_inner.binds (ps := ["self"]) fun _ _ _ _ _ _ us hl => match us, hl with | [_], _ => rfl
  have F_WhileRow_init := fun_mk (st := s_WhileRow_init) zl_WhileRow_init zd_WhileRow_init zk_WhileRow_init
  have B_WhileRow_init := F_WhileRow_init.binds (ps := ["self", "atom", "rows"]) fun _ _ _ _ _ _ us hl => match us, hl with | [_, _, _], _ => rfl
  have F_WhileRow_told := fun_mk (st := s_WhileRow_told) zl_WhileRow_told zd_WhileRow_told zk_WhileRow_told
  have B_WhileRow_told := F_WhileRow_told.binds (ps := ["self"]) fun _ _ _ _ _ _ us hl => match us, hl with | [_], _ => rfl
  have F_WhileRow_inner := fun_mk (st := s_WhileRow_inner) zl_WhileRow_inner zd_WhileRow_inner zk_WhileRow_inner
  have B_WhileRow_inner := F_WhileRow_inner.binds (ps := ["self"]) fun _ _ _ _ _ _ us hl => match us, hl with | [_], _ => rfl
  have F_rows_of := fun_mk (st := s_rows_of) zl_rows_of zd_rows_of zk_rows_of
  have B_rows_of := F_rows_of.binds (ps := ["some"]) fun _ _ _ _ _ _ us hl => match us, hl with | [_], _ => rfl
  have F_block_of := fun_mk (st := s_block_of) zl_block_of zd_block_of zk_block_of
  have B_block_of := F_block_of.binds (ps := ["told"]) fun _ _ _ _ _ _ us hl => match us, hl with | [_], _ => rfl
  have F_row_of := fun_mk (st := s_row_of) zl_row_of zd_row_of zk_row_of
  have B_row_of := F_row_of.binds (ps := ["told"]) fun _ _ _ _ _ _ us hl => match us, hl with | [_], _ => rfl
  have F_Helper_init := fun_mk (st := s_Helper_init) zl_Helper_init zd_Helper_init zk_Helper_init
  have B_Helper_init := F_Helper_init.binds (ps := ["self", "name", "params", "gives", "rows"]) fun _ _ _ _ _ _ us hl => match us, hl with | [_, _, _, _, _], _ => rfl
  have F_l_cell := fun_mk (st := s_l_cell) zl_l_cell zd_l_cell zk_l_cell
  have B_l_cell := F_l_cell.binds (ps := ["_law_script", "_law_k"]) fun _ _ _ _ _ _ us hl => match us, hl with | [_, _], _ => rfl
  have F_l_mixed := fun_mk (st := s_l_mixed) zl_l_mixed zd_l_mixed zk_l_mixed
  have B_l_mixed := F_l_mixed.binds (ps := ["_law_cell_here", "_law_k"]) fun _ _ _ _ _ _ us hl => match us, hl with | [_, _], _ => rfl
  have F_l_tree := fun_mk (st := s_l_tree) zl_l_tree zd_l_tree zk_l_tree
  have B_l_tree := F_l_tree.binds (ps := ["_law_cell_here", "_law_deep", "_law_many"]) fun _ _ _ _ _ _ us hl => match us, hl with | [_, _, _], _ => rfl
  have F_l_helper := fun_mk (st := s_l_helper) zl_l_helper zd_l_helper zk_l_helper
  have B_l_helper := F_l_helper.binds (ps := ["_law_rows"]) fun _ _ _ _ _ _ us hl => match us, hl with | [_], _ => rfl
  have F_l_flat := fun_mk (st := s_l_flat) zl_l_flat zd_l_flat zk_l_flat
  have B_l_flat := F_l_flat.binds (ps := ["_law_rows"]) fun _ _ _ _ _ _ us hl => match us, hl with | [_], _ => rfl
  have F_l_walk := fun_mk (st := s_l_walk) zl_l_walk zd_l_walk zk_l_walk
  have B_l_walk := F_l_walk.binds (ps := ["_law_script"]) fun _ _ _ _ _ _ us hl => match us, hl with | [_], _ => rfl
  have F_is_way := fun_mk (st := s_is_way) zl_is_way zd_is_way zk_is_way
  have B_is_way := F_is_way.binds (ps := ["helper", "points"]) fun _ _ _ _ _ _ us hl => match us, hl with | [_, _], _ => rfl
  have F_traced := fun_mk (st := s_traced) zl_traced zd_traced zk_traced
  have B_traced := F_traced.binds (ps := ["before", "knot"]) fun _ _ _ _ _ _ us hl => match us, hl with | [_, _], _ => rfl
  have F_nearest := fun_mk (st := s_nearest) zl_nearest zd_nearest zk_nearest
  have B_nearest := F_nearest.binds (ps := ["helper", "first", "last"]) fun _ _ _ _ _ _ us hl => match us, hl with | [_, _, _], _ => rfl
  have F_tracked := fun_mk (st := s_tracked) zl_tracked zd_tracked zk_tracked
  have B_tracked := F_tracked.binds (ps := ["helper", "turns", "state", "last", "due"]) fun _ _ _ _ _ _ us hl => match us, hl with | [_, _, _, _, _], _ => rfl
  have F_l_bit := fun_mk (st := s_l_bit) zl_l_bit zd_l_bit zk_l_bit
  have B_l_bit := F_l_bit.binds (ps := ["_law_bits"]) fun _ _ _ _ _ _ us hl => match us, hl with | [_], _ => rfl
  have F_l_run := fun_mk (st := s_l_run) zl_l_run zd_l_run zk_l_run
  have B_l_run := F_l_run.binds (ps := ["_law_rows", "_law_first", "_law_bits", "_law_found"]) fun _ _ _ _ _ _ us hl => match us, hl with | [_, _, _, _], _ => rfl
  have F_law := fun_mk (st := s_law) zl_law zd_law zk_law
  have B_law := F_law.binds (ps := ["_law_script"]) fun _ _ _ _ _ _ us hl => match us, hl with | [_], _ => rfl
  let T : Tx K mg := {
    n_range := PySem.W.mg_none_of X G zn_range
    n_len := PySem.W.mg_none_of X G zn_len
    n_tuple := PySem.W.mg_none_of X G zn_tuple
    n_divmod := PySem.W.mg_none_of X G zn_divmod
    n_int := PySem.W.mg_none_of X G zn_int
    n_zip := PySem.W.mg_none_of X G zn_zip
    a_BackRow := a_BackRow
    c_BackRow := PySem.W.mg_of X G zc_BackRow
    cl_BackRow := ⟨zpg_BackRow, zhd_BackRow, zpo_BackRow, zsa_BackRow⟩
    na_BackRow_atom := zna_BackRow_atom
    a_TellRow := a_TellRow
    c_TellRow := PySem.W.mg_of X G zc_TellRow
    cl_TellRow := ⟨zpg_TellRow, zhd_TellRow, zpo_TellRow, zsa_TellRow⟩
    na_TellRow_atom := zna_TellRow_atom
    a_IfRow := a_IfRow
    c_IfRow := PySem.W.mg_of X G zc_IfRow
    cl_IfRow := ⟨zpg_IfRow, zhd_IfRow, zpo_IfRow, zsa_IfRow⟩
    na_IfRow_atom := zna_IfRow_atom
    na_IfRow_rows := zna_IfRow_rows
    na_IfRow_others := zna_IfRow_others
    a_WhileRow := a_WhileRow
    c_WhileRow := PySem.W.mg_of X G zc_WhileRow
    cl_WhileRow := ⟨zpg_WhileRow, zhd_WhileRow, zpo_WhileRow, zsa_WhileRow⟩
    na_WhileRow_atom := zna_WhileRow_atom
    na_WhileRow_rows := zna_WhileRow_rows
    a_Helper := a_Helper
    c_Helper := PySem.W.mg_of X G zc_Helper
    cl_Helper := ⟨zpg_Helper, zhd_Helper, zpo_Helper, zsa_Helper⟩
    na_Helper_name := zna_Helper_name
    na_Helper_params := zna_Helper_params
    na_Helper_gives := zna_Helper_gives
    na_Helper_rows := zna_Helper_rows
    f_count_of := f_count_of
    d_count_of := _
    F_count_of := F_count_of
    B_count_of := B_count_of
    m_count_of := PySem.W.mg_of X G za_count_of
    f_link := f_link
    d_link := _
    F_link := F_link
    B_link := B_link
    m_link := PySem.W.mg_of X G za_link
    f_begin_of := f_begin_of
    d_begin_of := _
    F_begin_of := F_begin_of
    B_begin_of := B_begin_of
    m_begin_of := PySem.W.mg_of X G za_begin_of
    f_followers_of := f_followers_of
    d_followers_of := _
    F_followers_of := F_followers_of
    B_followers_of := B_followers_of
    m_followers_of := PySem.W.mg_of X G za_followers_of
    f_all_told := f_all_told
    d_all_told := _
    F_all_told := F_all_told
    B_all_told := B_all_told
    m_all_told := PySem.W.mg_of X G za_all_told
    f_Row_inner := f_Row_inner
    d_Row_inner := _
    F_Row_inner := F_Row_inner
    B_Row_inner := B_Row_inner
    f_BackRow_init := f_BackRow_init
    d_BackRow_init := _
    F_BackRow_init := F_BackRow_init
    B_BackRow_init := B_BackRow_init
    Mk_BackRow := ⟨zmk_BackRow, za_BackRow_init, zi_BackRow_init, zkc_BackRow⟩
    f_BackRow_told := f_BackRow_told
    d_BackRow_told := _
    F_BackRow_told := F_BackRow_told
    B_BackRow_told := B_BackRow_told
    f_TellRow_init := f_TellRow_init
    d_TellRow_init := _
    F_TellRow_init := F_TellRow_init
    B_TellRow_init := B_TellRow_init
    Mk_TellRow := ⟨zmk_TellRow, za_TellRow_init, zi_TellRow_init, zkc_TellRow⟩
    f_TellRow_told := f_TellRow_told
    d_TellRow_told := _
    F_TellRow_told := F_TellRow_told
    B_TellRow_told := B_TellRow_told
    f_IfRow_init := f_IfRow_init
    d_IfRow_init := _
    F_IfRow_init := F_IfRow_init
    B_IfRow_init := B_IfRow_init
    Mk_IfRow := ⟨zmk_IfRow, za_IfRow_init, zi_IfRow_init, zkc_IfRow⟩
    f_IfRow_told := f_IfRow_told
    d_IfRow_told := _
    F_IfRow_told := F_IfRow_told
    B_IfRow_told := B_IfRow_told
    f_IfRow_inner := f_IfRow_inner
    d_IfRow_inner := _
    F_IfRow_inner := F_IfRow_inner
    B_IfRow_inner := B_IfRow_inner
    f_WhileRow_init := f_WhileRow_init
    d_WhileRow_init := _
    F_WhileRow_init := F_WhileRow_init
    B_WhileRow_init := B_WhileRow_init
    Mk_WhileRow := ⟨zmk_WhileRow, za_WhileRow_init, zi_WhileRow_init, zkc_WhileRow⟩
    f_WhileRow_told := f_WhileRow_told
    d_WhileRow_told := _
    F_WhileRow_told := F_WhileRow_told
    B_WhileRow_told := B_WhileRow_told
    f_WhileRow_inner := f_WhileRow_inner
    d_WhileRow_inner := _
    F_WhileRow_inner := F_WhileRow_inner
    B_WhileRow_inner := B_WhileRow_inner
    f_rows_of := f_rows_of
    d_rows_of := _
    F_rows_of := F_rows_of
    B_rows_of := B_rows_of
    m_rows_of := PySem.W.mg_of X G za_rows_of
    f_block_of := f_block_of
    d_block_of := _
    F_block_of := F_block_of
    B_block_of := B_block_of
    m_block_of := PySem.W.mg_of X G za_block_of
    f_row_of := f_row_of
    d_row_of := _
    F_row_of := F_row_of
    B_row_of := B_row_of
    m_row_of := PySem.W.mg_of X G za_row_of
    f_Helper_init := f_Helper_init
    d_Helper_init := _
    F_Helper_init := F_Helper_init
    B_Helper_init := B_Helper_init
    Mk_Helper := ⟨zmk_Helper, za_Helper_init, zi_Helper_init, zkc_Helper⟩
    f_l_cell := f_l_cell
    d_l_cell := _
    F_l_cell := F_l_cell
    B_l_cell := B_l_cell
    m_l_cell := PySem.W.mg_of X G za_l_cell
    f_l_mixed := f_l_mixed
    d_l_mixed := _
    F_l_mixed := F_l_mixed
    B_l_mixed := B_l_mixed
    m_l_mixed := PySem.W.mg_of X G za_l_mixed
    f_l_tree := f_l_tree
    d_l_tree := _
    F_l_tree := F_l_tree
    B_l_tree := B_l_tree
    m_l_tree := PySem.W.mg_of X G za_l_tree
    f_l_helper := f_l_helper
    d_l_helper := _
    F_l_helper := F_l_helper
    B_l_helper := B_l_helper
    m_l_helper := PySem.W.mg_of X G za_l_helper
    f_l_flat := f_l_flat
    d_l_flat := _
    F_l_flat := F_l_flat
    B_l_flat := B_l_flat
    m_l_flat := PySem.W.mg_of X G za_l_flat
    f_l_walk := f_l_walk
    d_l_walk := _
    F_l_walk := F_l_walk
    B_l_walk := B_l_walk
    m_l_walk := PySem.W.mg_of X G za_l_walk
    f_is_way := f_is_way
    d_is_way := _
    F_is_way := F_is_way
    B_is_way := B_is_way
    m_is_way := PySem.W.mg_of X G za_is_way
    f_traced := f_traced
    d_traced := _
    F_traced := F_traced
    B_traced := B_traced
    m_traced := PySem.W.mg_of X G za_traced
    f_nearest := f_nearest
    d_nearest := _
    F_nearest := F_nearest
    B_nearest := B_nearest
    m_nearest := PySem.W.mg_of X G za_nearest
    f_tracked := f_tracked
    d_tracked := _
    F_tracked := F_tracked
    B_tracked := B_tracked
    m_tracked := PySem.W.mg_of X G za_tracked
    f_l_bit := f_l_bit
    d_l_bit := _
    F_l_bit := F_l_bit
    B_l_bit := B_l_bit
    m_l_bit := PySem.W.mg_of X G za_l_bit
    f_l_run := f_l_run
    d_l_run := _
    F_l_run := F_l_run
    B_l_run := B_l_run
    m_l_run := PySem.W.mg_of X G za_l_run
    f_law := fa
    d_law := _
    F_law := F_law
    B_law := B_law
    m_law := PySem.W.mg_of X G za_law
    M_BackRow_told := ⟨zm_BackRow_told, zi_BackRow_told, zk_BackRow_told⟩
    M_BackRow_inner := ⟨zm_BackRow_inner, zi_Row_inner, zk_Row_inner⟩
    M_TellRow_told := ⟨zm_TellRow_told, zi_TellRow_told, zk_TellRow_told⟩
    M_TellRow_inner := ⟨zm_TellRow_inner, zi_Row_inner, zk_Row_inner⟩
    M_IfRow_told := ⟨zm_IfRow_told, zi_IfRow_told, zk_IfRow_told⟩
    M_IfRow_inner := ⟨zm_IfRow_inner, zi_IfRow_inner, zk_IfRow_inner⟩
    M_WhileRow_told := ⟨zm_WhileRow_told, zi_WhileRow_told, zk_WhileRow_told⟩
    M_WhileRow_inner := ⟨zm_WhileRow_inner, zi_WhileRow_inner, zk_WhileRow_inner⟩ }
  exact ⟨PySem.W.fnOf "law" "law" (defArgs s_law) (defBody s_law) (defScope s_law) .none kV_law dc_law pm_law an_law cd_law ct_law, fun s v => .of_eq rfl, fun base _ _ => ok_law T⟩
/-! ### the head: facts as Bool functions of the written part, one kernel run of the top -/
def hf0 : List (PySem.W.Frag → Bool) := [fun K => He.eqO (PySem.W.nsIn K mainGlobals "range") (some none),
  fun K => He.eqO (PySem.W.nsIn K mainGlobals "len") (some none),
  fun K => He.eqO (PySem.W.nsIn K mainGlobals "tuple") (some none),
  fun K => He.eqO (PySem.W.nsIn K mainGlobals "divmod") (some none),
  fun K => He.eqO (PySem.W.nsIn K mainGlobals "int") (some none),
  fun K => He.eqO (PySem.W.nsIn K mainGlobals "zip") (some none),
  fun K => He.eqO (PySem.W.nsIn K mainGlobals "BackRow") (some (some (.ref (He.ga K "BackRow")))),
  fun K => PySem.W.plainGet K (He.ga K "BackRow") Str.empty,
  fun K => PySem.W.hasDictIn K (He.ga K "BackRow"),
  fun K => PySem.W.plainOver K (He.ga K "BackRow"),
  fun K => He.eqO (PySem.W.findIn K (.ref (He.ga K "BackRow")) "__setattr__") (some (some (.builtin "object.__setattr__"))),
  fun K => PySem.W.makesIn K (He.ga K "BackRow"),
  fun K => PySem.W.keepIn K (.ref (He.ga K "BackRow")),
  fun K => He.eqO (PySem.W.findIn K (.ref (He.ga K "BackRow")) "atom") (some none),
  fun K => He.eqO (PySem.W.nsIn K mainGlobals "TellRow") (some (some (.ref (He.ga K "TellRow")))),
  fun K => PySem.W.plainGet K (He.ga K "TellRow") Str.empty,
  fun K => PySem.W.hasDictIn K (He.ga K "TellRow"),
  fun K => PySem.W.plainOver K (He.ga K "TellRow"),
  fun K => He.eqO (PySem.W.findIn K (.ref (He.ga K "TellRow")) "__setattr__") (some (some (.builtin "object.__setattr__"))),
  fun K => PySem.W.makesIn K (He.ga K "TellRow"),
  fun K => PySem.W.keepIn K (.ref (He.ga K "TellRow")),
  fun K => He.eqO (PySem.W.findIn K (.ref (He.ga K "TellRow")) "atom") (some none),
  fun K => He.eqO (PySem.W.nsIn K mainGlobals "IfRow") (some (some (.ref (He.ga K "IfRow")))),
  fun K => PySem.W.plainGet K (He.ga K "IfRow") Str.empty,
  fun K => PySem.W.hasDictIn K (He.ga K "IfRow")]
def hf1 : List (PySem.W.Frag → Bool) := [fun K => PySem.W.plainOver K (He.ga K "IfRow"),
  fun K => He.eqO (PySem.W.findIn K (.ref (He.ga K "IfRow")) "__setattr__") (some (some (.builtin "object.__setattr__"))),
  fun K => PySem.W.makesIn K (He.ga K "IfRow"),
  fun K => PySem.W.keepIn K (.ref (He.ga K "IfRow")),
  fun K => He.eqO (PySem.W.findIn K (.ref (He.ga K "IfRow")) "atom") (some none),
  fun K => He.eqO (PySem.W.findIn K (.ref (He.ga K "IfRow")) "rows") (some none),
  fun K => He.eqO (PySem.W.findIn K (.ref (He.ga K "IfRow")) "others") (some none),
  fun K => He.eqO (PySem.W.nsIn K mainGlobals "WhileRow") (some (some (.ref (He.ga K "WhileRow")))),
  fun K => PySem.W.plainGet K (He.ga K "WhileRow") Str.empty,
  fun K => PySem.W.hasDictIn K (He.ga K "WhileRow"),
  fun K => PySem.W.plainOver K (He.ga K "WhileRow"),
  fun K => He.eqO (PySem.W.findIn K (.ref (He.ga K "WhileRow")) "__setattr__") (some (some (.builtin "object.__setattr__"))),
  fun K => PySem.W.makesIn K (He.ga K "WhileRow"),
  fun K => PySem.W.keepIn K (.ref (He.ga K "WhileRow")),
  fun K => He.eqO (PySem.W.findIn K (.ref (He.ga K "WhileRow")) "atom") (some none),
  fun K => He.eqO (PySem.W.findIn K (.ref (He.ga K "WhileRow")) "rows") (some none),
  fun K => He.eqO (PySem.W.nsIn K mainGlobals "Helper") (some (some (.ref (He.ga K "Helper")))),
  fun K => PySem.W.plainGet K (He.ga K "Helper") Str.empty,
  fun K => PySem.W.hasDictIn K (He.ga K "Helper"),
  fun K => PySem.W.plainOver K (He.ga K "Helper"),
  fun K => He.eqO (PySem.W.findIn K (.ref (He.ga K "Helper")) "__setattr__") (some (some (.builtin "object.__setattr__"))),
  fun K => PySem.W.makesIn K (He.ga K "Helper"),
  fun K => PySem.W.keepIn K (.ref (He.ga K "Helper")),
  fun K => He.eqO (PySem.W.findIn K (.ref (He.ga K "Helper")) "name") (some none),
  fun K => He.eqO (PySem.W.findIn K (.ref (He.ga K "Helper")) "params") (some none)]
def hf2 : List (PySem.W.Frag → Bool) := [fun K => He.eqO (PySem.W.findIn K (.ref (He.ga K "Helper")) "gives") (some none),
  fun K => He.eqO (PySem.W.findIn K (.ref (He.ga K "Helper")) "rows") (some none),
  fun K => He.eqO (PySem.W.nsIn K mainGlobals "count_of") (some (some (.ref (He.fAd K ("count_of", none))))),
  fun K => PySem.W.keepIn K (.ref (He.fAd K ("count_of", none))),
  fun K => He.eqO (PySem.W.nsIn K mainGlobals "link") (some (some (.ref (He.fAd K ("link", none))))),
  fun K => PySem.W.keepIn K (.ref (He.fAd K ("link", none))),
  fun K => He.eqO (PySem.W.nsIn K mainGlobals "begin_of") (some (some (.ref (He.fAd K ("begin_of", none))))),
  fun K => PySem.W.keepIn K (.ref (He.fAd K ("begin_of", none))),
  fun K => He.eqO (PySem.W.nsIn K mainGlobals "followers_of") (some (some (.ref (He.fAd K ("followers_of", none))))),
  fun K => PySem.W.keepIn K (.ref (He.fAd K ("followers_of", none))),
  fun K => He.eqO (PySem.W.nsIn K mainGlobals "all_told") (some (some (.ref (He.fAd K ("all_told", none))))),
  fun K => PySem.W.keepIn K (.ref (He.fAd K ("all_told", none))),
  fun K => He.eqO (PySem.W.findIn K (.ref (He.ga K "BackRow")) "inner") (some (some (.ref (He.fAd K ("Row", some "inner"))))),
  fun K => He.eqO (PySem.W.findIn K (.ref (He.ga K "TellRow")) "inner") (some (some (.ref (He.fAd K ("Row", some "inner"))))),
  fun K => PySem.W.isFn K (.ref (He.fAd K ("Row", some "inner"))),
  fun K => PySem.W.keepIn K (.ref (He.fAd K ("Row", some "inner"))),
  fun K => He.eqO (PySem.W.findIn K (.ref (He.ga K "BackRow")) "__init__") (some (some (.ref (He.fAd K ("BackRow", some "__init__"))))),
  fun K => PySem.W.isFn K (.ref (He.fAd K ("BackRow", some "__init__"))),
  fun K => PySem.W.keepIn K (.ref (He.fAd K ("BackRow", some "__init__"))),
  fun K => He.eqO (PySem.W.findIn K (.ref (He.ga K "BackRow")) "told") (some (some (.ref (He.fAd K ("BackRow", some "told"))))),
  fun K => PySem.W.isFn K (.ref (He.fAd K ("BackRow", some "told"))),
  fun K => PySem.W.keepIn K (.ref (He.fAd K ("BackRow", some "told"))),
  fun K => He.eqO (PySem.W.findIn K (.ref (He.ga K "TellRow")) "__init__") (some (some (.ref (He.fAd K ("TellRow", some "__init__"))))),
  fun K => PySem.W.isFn K (.ref (He.fAd K ("TellRow", some "__init__"))),
  fun K => PySem.W.keepIn K (.ref (He.fAd K ("TellRow", some "__init__")))]
def hf3 : List (PySem.W.Frag → Bool) := [fun K => He.eqO (PySem.W.findIn K (.ref (He.ga K "TellRow")) "told") (some (some (.ref (He.fAd K ("TellRow", some "told"))))),
  fun K => PySem.W.isFn K (.ref (He.fAd K ("TellRow", some "told"))),
  fun K => PySem.W.keepIn K (.ref (He.fAd K ("TellRow", some "told"))),
  fun K => He.eqO (PySem.W.findIn K (.ref (He.ga K "IfRow")) "__init__") (some (some (.ref (He.fAd K ("IfRow", some "__init__"))))),
  fun K => PySem.W.isFn K (.ref (He.fAd K ("IfRow", some "__init__"))),
  fun K => PySem.W.keepIn K (.ref (He.fAd K ("IfRow", some "__init__"))),
  fun K => He.eqO (PySem.W.findIn K (.ref (He.ga K "IfRow")) "told") (some (some (.ref (He.fAd K ("IfRow", some "told"))))),
  fun K => PySem.W.isFn K (.ref (He.fAd K ("IfRow", some "told"))),
  fun K => PySem.W.keepIn K (.ref (He.fAd K ("IfRow", some "told"))),
  fun K => He.eqO (PySem.W.findIn K (.ref (He.ga K "IfRow")) "inner") (some (some (.ref (He.fAd K ("IfRow", some "inner"))))),
  fun K => PySem.W.isFn K (.ref (He.fAd K ("IfRow", some "inner"))),
  fun K => PySem.W.keepIn K (.ref (He.fAd K ("IfRow", some "inner"))),
  fun K => He.eqO (PySem.W.findIn K (.ref (He.ga K "WhileRow")) "__init__") (some (some (.ref (He.fAd K ("WhileRow", some "__init__"))))),
  fun K => PySem.W.isFn K (.ref (He.fAd K ("WhileRow", some "__init__"))),
  fun K => PySem.W.keepIn K (.ref (He.fAd K ("WhileRow", some "__init__"))),
  fun K => He.eqO (PySem.W.findIn K (.ref (He.ga K "WhileRow")) "told") (some (some (.ref (He.fAd K ("WhileRow", some "told"))))),
  fun K => PySem.W.isFn K (.ref (He.fAd K ("WhileRow", some "told"))),
  fun K => PySem.W.keepIn K (.ref (He.fAd K ("WhileRow", some "told"))),
  fun K => He.eqO (PySem.W.findIn K (.ref (He.ga K "WhileRow")) "inner") (some (some (.ref (He.fAd K ("WhileRow", some "inner"))))),
  fun K => PySem.W.isFn K (.ref (He.fAd K ("WhileRow", some "inner"))),
  fun K => PySem.W.keepIn K (.ref (He.fAd K ("WhileRow", some "inner"))),
  fun K => He.eqO (PySem.W.nsIn K mainGlobals "rows_of") (some (some (.ref (He.fAd K ("rows_of", none))))),
  fun K => PySem.W.keepIn K (.ref (He.fAd K ("rows_of", none))),
  fun K => He.eqO (PySem.W.nsIn K mainGlobals "block_of") (some (some (.ref (He.fAd K ("block_of", none))))),
  fun K => PySem.W.keepIn K (.ref (He.fAd K ("block_of", none)))]
def hf4 : List (PySem.W.Frag → Bool) := [fun K => He.eqO (PySem.W.nsIn K mainGlobals "row_of") (some (some (.ref (He.fAd K ("row_of", none))))),
  fun K => PySem.W.keepIn K (.ref (He.fAd K ("row_of", none))),
  fun K => He.eqO (PySem.W.findIn K (.ref (He.ga K "Helper")) "__init__") (some (some (.ref (He.fAd K ("Helper", some "__init__"))))),
  fun K => PySem.W.isFn K (.ref (He.fAd K ("Helper", some "__init__"))),
  fun K => PySem.W.keepIn K (.ref (He.fAd K ("Helper", some "__init__"))),
  fun K => He.eqO (PySem.W.nsIn K mainGlobals "_law_cell") (some (some (.ref (He.fAd K ("_law_cell", none))))),
  fun K => PySem.W.keepIn K (.ref (He.fAd K ("_law_cell", none))),
  fun K => He.eqO (PySem.W.nsIn K mainGlobals "_law_mixed") (some (some (.ref (He.fAd K ("_law_mixed", none))))),
  fun K => PySem.W.keepIn K (.ref (He.fAd K ("_law_mixed", none))),
  fun K => He.eqO (PySem.W.nsIn K mainGlobals "_law_tree") (some (some (.ref (He.fAd K ("_law_tree", none))))),
  fun K => PySem.W.keepIn K (.ref (He.fAd K ("_law_tree", none))),
  fun K => He.eqO (PySem.W.nsIn K mainGlobals "_law_helper") (some (some (.ref (He.fAd K ("_law_helper", none))))),
  fun K => PySem.W.keepIn K (.ref (He.fAd K ("_law_helper", none))),
  fun K => He.eqO (PySem.W.nsIn K mainGlobals "_law_flat") (some (some (.ref (He.fAd K ("_law_flat", none))))),
  fun K => PySem.W.keepIn K (.ref (He.fAd K ("_law_flat", none))),
  fun K => He.eqO (PySem.W.nsIn K mainGlobals "_law_walk") (some (some (.ref (He.fAd K ("_law_walk", none))))),
  fun K => PySem.W.keepIn K (.ref (He.fAd K ("_law_walk", none))),
  fun K => He.eqO (PySem.W.nsIn K mainGlobals "is_way") (some (some (.ref (He.fAd K ("is_way", none))))),
  fun K => PySem.W.keepIn K (.ref (He.fAd K ("is_way", none))),
  fun K => He.eqO (PySem.W.nsIn K mainGlobals "traced") (some (some (.ref (He.fAd K ("traced", none))))),
  fun K => PySem.W.keepIn K (.ref (He.fAd K ("traced", none))),
  fun K => He.eqO (PySem.W.nsIn K mainGlobals "nearest") (some (some (.ref (He.fAd K ("nearest", none))))),
  fun K => PySem.W.keepIn K (.ref (He.fAd K ("nearest", none))),
  fun K => He.eqO (PySem.W.nsIn K mainGlobals "tracked") (some (some (.ref (He.fAd K ("tracked", none))))),
  fun K => PySem.W.keepIn K (.ref (He.fAd K ("tracked", none)))]
def hf5 : List (PySem.W.Frag → Bool) := [fun K => He.eqO (PySem.W.nsIn K mainGlobals "_law_bit") (some (some (.ref (He.fAd K ("_law_bit", none))))),
  fun K => PySem.W.keepIn K (.ref (He.fAd K ("_law_bit", none))),
  fun K => He.eqO (PySem.W.nsIn K mainGlobals "_law_run") (some (some (.ref (He.fAd K ("_law_run", none))))),
  fun K => PySem.W.keepIn K (.ref (He.fAd K ("_law_run", none))),
  fun K => He.eqO (PySem.W.nsIn K mainGlobals "law") (some (some (.ref (He.fAd K ("law", none))))),
  fun K => PySem.W.keepIn K (.ref (He.fAd K ("law", none)))]
def hfs : List (PySem.W.Frag → Bool) := hf0 ++ hf1 ++ hf2 ++ hf3 ++ hf4 ++ hf5
def hd_count_of : He.FnD := ⟨("count_of", none), "count_of", "count_of", defArgs s_count_of, defBody s_count_of, defScope s_count_of⟩
def hd_link : He.FnD := ⟨("link", none), "link", "link", defArgs s_link, defBody s_link, defScope s_link⟩
def hd_begin_of : He.FnD := ⟨("begin_of", none), "begin_of", "begin_of", defArgs s_begin_of, defBody s_begin_of, defScope s_begin_of⟩
def hd_followers_of : He.FnD := ⟨("followers_of", none), "followers_of", "followers_of", defArgs s_followers_of, defBody s_followers_of, defScope s_followers_of⟩
def hd_all_told : He.FnD := ⟨("all_told", none), "all_told", "all_told", defArgs s_all_told, defBody s_all_told, defScope s_all_told⟩
def hd_Row_inner : He.FnD := ⟨("Row", some "inner"), "inner", "Row.inner", defArgs s_Row_inner, defBody s_Row_inner, defScope s_Row_inner⟩
def hd_BackRow_init : He.FnD := ⟨("BackRow", some "__init__"), "__init__", "BackRow.__init__", defArgs s_BackRow_init, defBody s_BackRow_init, defScope s_BackRow_init⟩
def hd_BackRow_told : He.FnD := ⟨("BackRow", some "told"), "told", "BackRow.told", defArgs s_BackRow_told, defBody s_BackRow_told, defScope s_BackRow_told⟩
def hd_TellRow_init : He.FnD := ⟨("TellRow", some "__init__"), "__init__", "TellRow.__init__", defArgs s_TellRow_init, defBody s_TellRow_init, defScope s_TellRow_init⟩
def hd_TellRow_told : He.FnD := ⟨("TellRow", some "told"), "told", "TellRow.told", defArgs s_TellRow_told, defBody s_TellRow_told, defScope s_TellRow_told⟩
def hd_IfRow_init : He.FnD := ⟨("IfRow", some "__init__"), "__init__", "IfRow.__init__", defArgs s_IfRow_init, defBody s_IfRow_init, defScope s_IfRow_init⟩
def hd_IfRow_told : He.FnD := ⟨("IfRow", some "told"), "told", "IfRow.told", defArgs s_IfRow_told, defBody s_IfRow_told, defScope s_IfRow_told⟩
def hd_IfRow_inner : He.FnD := ⟨("IfRow", some "inner"), "inner", "IfRow.inner", defArgs s_IfRow_inner, defBody s_IfRow_inner, defScope s_IfRow_inner⟩
def hd_WhileRow_init : He.FnD := ⟨("WhileRow", some "__init__"), "__init__", "WhileRow.__init__", defArgs s_WhileRow_init, defBody s_WhileRow_init, defScope s_WhileRow_init⟩
def hd_WhileRow_told : He.FnD := ⟨("WhileRow", some "told"), "told", "WhileRow.told", defArgs s_WhileRow_told, defBody s_WhileRow_told, defScope s_WhileRow_told⟩
def hd_WhileRow_inner : He.FnD := ⟨("WhileRow", some "inner"), "inner", "WhileRow.inner", defArgs s_WhileRow_inner, defBody s_WhileRow_inner, defScope s_WhileRow_inner⟩
def hd_rows_of : He.FnD := ⟨("rows_of", none), "rows_of", "rows_of", defArgs s_rows_of, defBody s_rows_of, defScope s_rows_of⟩
def hd_block_of : He.FnD := ⟨("block_of", none), "block_of", "block_of", defArgs s_block_of, defBody s_block_of, defScope s_block_of⟩
def hd_row_of : He.FnD := ⟨("row_of", none), "row_of", "row_of", defArgs s_row_of, defBody s_row_of, defScope s_row_of⟩
def hd_Helper_init : He.FnD := ⟨("Helper", some "__init__"), "__init__", "Helper.__init__", defArgs s_Helper_init, defBody s_Helper_init, defScope s_Helper_init⟩
def hd_l_cell : He.FnD := ⟨("_law_cell", none), "_law_cell", "_law_cell", defArgs s_l_cell, defBody s_l_cell, defScope s_l_cell⟩
def hd_l_mixed : He.FnD := ⟨("_law_mixed", none), "_law_mixed", "_law_mixed", defArgs s_l_mixed, defBody s_l_mixed, defScope s_l_mixed⟩
def hd_l_tree : He.FnD := ⟨("_law_tree", none), "_law_tree", "_law_tree", defArgs s_l_tree, defBody s_l_tree, defScope s_l_tree⟩
def hd_l_helper : He.FnD := ⟨("_law_helper", none), "_law_helper", "_law_helper", defArgs s_l_helper, defBody s_l_helper, defScope s_l_helper⟩
def hd_l_flat : He.FnD := ⟨("_law_flat", none), "_law_flat", "_law_flat", defArgs s_l_flat, defBody s_l_flat, defScope s_l_flat⟩
def hd_l_walk : He.FnD := ⟨("_law_walk", none), "_law_walk", "_law_walk", defArgs s_l_walk, defBody s_l_walk, defScope s_l_walk⟩
def hd_is_way : He.FnD := ⟨("is_way", none), "is_way", "is_way", defArgs s_is_way, defBody s_is_way, defScope s_is_way⟩
def hd_traced : He.FnD := ⟨("traced", none), "traced", "traced", defArgs s_traced, defBody s_traced, defScope s_traced⟩
def hd_nearest : He.FnD := ⟨("nearest", none), "nearest", "nearest", defArgs s_nearest, defBody s_nearest, defScope s_nearest⟩
def hd_tracked : He.FnD := ⟨("tracked", none), "tracked", "tracked", defArgs s_tracked, defBody s_tracked, defScope s_tracked⟩
def hd_l_bit : He.FnD := ⟨("_law_bit", none), "_law_bit", "_law_bit", defArgs s_l_bit, defBody s_l_bit, defScope s_l_bit⟩
def hd_l_run : He.FnD := ⟨("_law_run", none), "_law_run", "_law_run", defArgs s_l_run, defBody s_l_run, defScope s_l_run⟩
def hd_law : He.FnD := ⟨("law", none), "law", "law", defArgs s_law, defBody s_law, defScope s_law⟩
def hn0 : List He.FnD := [hd_count_of, hd_link, hd_begin_of, hd_followers_of, hd_all_told, hd_Row_inner, hd_BackRow_init, hd_BackRow_told, hd_TellRow_init, hd_TellRow_told, hd_IfRow_init, hd_IfRow_told, hd_IfRow_inner, hd_WhileRow_init, hd_WhileRow_told, hd_WhileRow_inner, hd_rows_of, hd_block_of, hd_row_of, hd_Helper_init, hd_l_cell, hd_l_mixed, hd_l_tree, hd_l_helper, hd_l_flat]
def hn1 : List He.FnD := [hd_l_walk, hd_is_way, hd_traced, hd_nearest, hd_tracked, hd_l_bit, hd_l_run, hd_law]
def hfn : List He.FnD := hn0 ++ hn1
abbrev Al : Type := Bool × List He.FnV
def obsK (K : PySem.W.Frag) : Al := ((hfs.all fun f => f K) && hfn.all fun d => (He.Fa.code d.at_ d.qual).ok K, hfn.map fun d => He.fnObs K d.at_)
def valK : Al := (true, hfn.map He.FnD.val)
def SaysK (K : PySem.W.Frag) : Prop := obsK K = valK
def obsH (g : Addr → Option Obj) : Al := obsK (He.frG g (He.asG g 5))
def hk : PySem.W.Hook where
  α := Al
  obs := fun s => obsH s.heap.get?
  val := fun _ => valK
  says := fun _ h => ∃ K : PySem.W.Frag, K.In h ∧ SaysK K
  of := fun _ _ e => ⟨_, He.frG_in, e⟩
  keeps := fun _ _ _ ⟨K, hK, c⟩ k => ⟨K, PySem.W.Frag.In.keeps hK k, c⟩
theorem obsH_eq {g : Addr → Option Obj} {s : Shared} (h : ∀ a, g a = s.heap.get? a) : obsH g = hk.obs s := by
  have e : g = s.heap.get? := funext h
  rw [e] <;> rfl
def ob (s : PySem.W.SharedT) : Al := obsH (HandSHeadRun.getT s)
theorem ob_eq (s : PySem.W.SharedT) : ob s = hk.obs s.abs := obsH_eq (HandSHeadRun.getT_eq s)
theorem allApp {α : Type} {f : α → Bool} {l m : List α} (h : (l ++ m).all f = true) : l.all f = true ∧ m.all f = true := by
  rw [List.all_append] at h
  exact Bool.and_eq_true_iff.mp h
theorem saysF {K : PySem.W.Frag} (c : SaysK K) : hfs.all (fun f => f K) = true :=
  (He.ba (show ((hfs.all fun f => f K) && hfn.all fun d => (He.Fa.code d.at_ d.qual).ok K) = true from congrArg (fun z : Al => z.1) c)).1
theorem saysD {K : PySem.W.Frag} (c : SaysK K) {d : He.FnD} (hd : d ∈ hfn) :
    ∃ oc od osl kV doc pm an cdv ct, K.lookup (He.fAd K d.at_) = some ⟨oc, od, .func (PySem.W.fnOf d.name d.qual d.params d.body d.scope .none kV doc pm an cdv ct), osl⟩ ∧ PySem.W.codeIn K cdv d.qual = true := by
  have c2 := (He.ba (show ((hfs.all fun f => f K) && hfn.all fun d => (He.Fa.code d.at_ d.qual).ok K) = true from congrArg (fun z : Al => z.1) c)).2
  have e : hfn.map (fun d => He.fnObs K d.at_) = hfn.map He.FnD.val := congrArg (fun z : Al => z.2) c
  obtain ⟨i, hi⟩ := List.mem_iff_getElem?.mp hd
  have e2 : (hfn.map fun d => He.fnObs K d.at_)[i]? = (hfn.map He.FnD.val)[i]? := by rw [e]
  rw [List.getElem?_map, List.getElem?_map, hi] at e2
  exact He.fn_ok (Option.some.inj e2) (List.all_eq_true.mp c2 d hd)
theorem hfat0 {K : PySem.W.Frag} (c : SaysK K) : hf0.all (fun f => f K) = true := by
  have z := saysF c
  unfold hfs at z
  have z := (allApp z).1
  have z := (allApp z).1
  have z := (allApp z).1
  have z := (allApp z).1
  have z := (allApp z).1
  exact z
theorem hfact0 {K : PySem.W.Frag} (c : SaysK K) (i : Nat) {f : PySem.W.Frag → Bool} (h : hf0[i]? = some f := by rfl) : f K = true := List.all_eq_true.mp (hfat0 c) f (List.mem_of_getElem? h)
theorem hfat1 {K : PySem.W.Frag} (c : SaysK K) : hf1.all (fun f => f K) = true := by
  have z := saysF c
  unfold hfs at z
  have z := (allApp z).1
  have z := (allApp z).1
  have z := (allApp z).1
  have z := (allApp z).1
  exact (allApp z).2
theorem hfact1 {K : PySem.W.Frag} (c : SaysK K) (i : Nat) {f : PySem.W.Frag → Bool} (h : hf1[i]? = some f := by rfl) : f K = true := List.all_eq_true.mp (hfat1 c) f (List.mem_of_getElem? h)
theorem hfat2 {K : PySem.W.Frag} (c : SaysK K) : hf2.all (fun f => f K) = true := by
  have z := saysF c
  unfold hfs at z
  have z := (allApp z).1
  have z := (allApp z).1
  have z := (allApp z).1
  exact (allApp z).2
theorem hfact2 {K : PySem.W.Frag} (c : SaysK K) (i : Nat) {f : PySem.W.Frag → Bool} (h : hf2[i]? = some f := by rfl) : f K = true := List.all_eq_true.mp (hfat2 c) f (List.mem_of_getElem? h)
theorem hfat3 {K : PySem.W.Frag} (c : SaysK K) : hf3.all (fun f => f K) = true := by
  have z := saysF c
  unfold hfs at z
  have z := (allApp z).1
  have z := (allApp z).1
  exact (allApp z).2
theorem hfact3 {K : PySem.W.Frag} (c : SaysK K) (i : Nat) {f : PySem.W.Frag → Bool} (h : hf3[i]? = some f := by rfl) : f K = true := List.all_eq_true.mp (hfat3 c) f (List.mem_of_getElem? h)
theorem hfat4 {K : PySem.W.Frag} (c : SaysK K) : hf4.all (fun f => f K) = true := by
  have z := saysF c
  unfold hfs at z
  have z := (allApp z).1
  exact (allApp z).2
theorem hfact4 {K : PySem.W.Frag} (c : SaysK K) (i : Nat) {f : PySem.W.Frag → Bool} (h : hf4[i]? = some f := by rfl) : f K = true := List.all_eq_true.mp (hfat4 c) f (List.mem_of_getElem? h)
theorem hfat5 {K : PySem.W.Frag} (c : SaysK K) : hf5.all (fun f => f K) = true := by
  have z := saysF c
  unfold hfs at z
  exact (allApp z).2
theorem hfact5 {K : PySem.W.Frag} (c : SaysK K) (i : Nat) {f : PySem.W.Frag → Bool} (h : hf5[i]? = some f := by rfl) : f K = true := List.all_eq_true.mp (hfat5 c) f (List.mem_of_getElem? h)
def nm0 : List PySem.Str := [(PySem.Str.ofString "_wall"), (PySem.Str.ofString "count_of"), (PySem.Str.ofString "link"), (PySem.Str.ofString "begin_of"), (PySem.Str.ofString "followers_of"), (PySem.Str.ofString "is_way"), (PySem.Str.ofString "traced"), (PySem.Str.ofString "nearest"), (PySem.Str.ofString "tracked"), (PySem.Str.ofString "all_told"), (PySem.Str.ofString "Row"), (PySem.Str.ofString "SetRow"), (PySem.Str.ofString "MakeRow"), (PySem.Str.ofString "NoneRow"), (PySem.Str.ofString "GiveRow"), (PySem.Str.ofString "TakeRow"), (PySem.Str.ofString "FillRow"), (PySem.Str.ofString "SwapRow"), (PySem.Str.ofString "GetRow"), (PySem.Str.ofString "PutRow"), (PySem.Str.ofString "HasRow"), (PySem.Str.ofString "DropRow"), (PySem.Str.ofString "LendRow"), (PySem.Str.ofString "StepRow"), (PySem.Str.ofString "CallRow"), (PySem.Str.ofString "BackRow"), (PySem.Str.ofString "AskRow"), (PySem.Str.ofString "TellRow"), (PySem.Str.ofString "IfRow"), (PySem.Str.ofString "WhileRow"), (PySem.Str.ofString "rows_of"), (PySem.Str.ofString "block_of"), (PySem.Str.ofString "box_row_of"), (PySem.Str.ofString "row_of"), (PySem.Str.ofString "Helper")]
def nm1 : List PySem.Str := [(PySem.Str.ofString "_law_cell"), (PySem.Str.ofString "_law_mixed"), (PySem.Str.ofString "_law_tree"), (PySem.Str.ofString "_law_helper"), (PySem.Str.ofString "_law_flat"), (PySem.Str.ofString "_law_walk"), (PySem.Str.ofString "_law_bit"), (PySem.Str.ofString "_law_run")]
def nms : List PySem.Str := nm0 ++ nm1
abbrev R : PySem.W.OpenRow := PySem.W.OpenLaw.row PySem.Challenge.rw_holders_k25_whole_what_is_run_is_a_way
abbrev qv : Program := PySem.W.view R.prog [47]
set_option maxHeartbeats 0 in
theorem run (w : World) : HandSHeadRun.RunEq R qv hk ob 20000 nms w := by
  intro os
  kernel_rfl
theorem facts {l : PySem.W.OpenLaw} {w : World} {K : PySem.W.Frag} {h : Heap} {mg : Str → Option Value} {fa : Addr} (X : K.In h) (G : h.Ns mainGlobals mg) (hfa : mg "law" = some (.ref fa)) (c : SaysK K) :
    ∃ fd : FuncData, (∀ (s : Shared) (v : Value), BindsTo s fd ⟨[v], []⟩ [("_law_script", v)]) ∧ ∀ base : Heap, K.In base → base.Ns mainGlobals mg → FnOk l.prog w K mg base CX0 40 fa fd ["_law_script"] (spLaw K) := by
  obtain ⟨_, _, _, _, _, _, _, _, _, zl_count_of, zd_count_of⟩ := saysD c (d := hd_count_of) (List.mem_of_getElem? (i := 0) (by rfl))
  obtain ⟨_, _, _, _, _, _, _, _, _, zl_link, zd_link⟩ := saysD c (d := hd_link) (List.mem_of_getElem? (i := 1) (by rfl))
  obtain ⟨_, _, _, _, _, _, _, _, _, zl_begin_of, zd_begin_of⟩ := saysD c (d := hd_begin_of) (List.mem_of_getElem? (i := 2) (by rfl))
  obtain ⟨_, _, _, _, _, _, _, _, _, zl_followers_of, zd_followers_of⟩ := saysD c (d := hd_followers_of) (List.mem_of_getElem? (i := 3) (by rfl))
  obtain ⟨_, _, _, _, _, _, _, _, _, zl_all_told, zd_all_told⟩ := saysD c (d := hd_all_told) (List.mem_of_getElem? (i := 4) (by rfl))
  obtain ⟨_, _, _, _, _, _, _, _, _, zl_Row_inner, zd_Row_inner⟩ := saysD c (d := hd_Row_inner) (List.mem_of_getElem? (i := 5) (by rfl))
  obtain ⟨_, _, _, _, _, _, _, _, _, zl_BackRow_init, zd_BackRow_init⟩ := saysD c (d := hd_BackRow_init) (List.mem_of_getElem? (i := 6) (by rfl))
  obtain ⟨_, _, _, _, _, _, _, _, _, zl_BackRow_told, zd_BackRow_told⟩ := saysD c (d := hd_BackRow_told) (List.mem_of_getElem? (i := 7) (by rfl))
  obtain ⟨_, _, _, _, _, _, _, _, _, zl_TellRow_init, zd_TellRow_init⟩ := saysD c (d := hd_TellRow_init) (List.mem_of_getElem? (i := 8) (by rfl))
  obtain ⟨_, _, _, _, _, _, _, _, _, zl_TellRow_told, zd_TellRow_told⟩ := saysD c (d := hd_TellRow_told) (List.mem_of_getElem? (i := 9) (by rfl))
  obtain ⟨_, _, _, _, _, _, _, _, _, zl_IfRow_init, zd_IfRow_init⟩ := saysD c (d := hd_IfRow_init) (List.mem_of_getElem? (i := 10) (by rfl))
  obtain ⟨_, _, _, _, _, _, _, _, _, zl_IfRow_told, zd_IfRow_told⟩ := saysD c (d := hd_IfRow_told) (List.mem_of_getElem? (i := 11) (by rfl))
  obtain ⟨_, _, _, _, _, _, _, _, _, zl_IfRow_inner, zd_IfRow_inner⟩ := saysD c (d := hd_IfRow_inner) (List.mem_of_getElem? (i := 12) (by rfl))
  obtain ⟨_, _, _, _, _, _, _, _, _, zl_WhileRow_init, zd_WhileRow_init⟩ := saysD c (d := hd_WhileRow_init) (List.mem_of_getElem? (i := 13) (by rfl))
  obtain ⟨_, _, _, _, _, _, _, _, _, zl_WhileRow_told, zd_WhileRow_told⟩ := saysD c (d := hd_WhileRow_told) (List.mem_of_getElem? (i := 14) (by rfl))
  obtain ⟨_, _, _, _, _, _, _, _, _, zl_WhileRow_inner, zd_WhileRow_inner⟩ := saysD c (d := hd_WhileRow_inner) (List.mem_of_getElem? (i := 15) (by rfl))
  obtain ⟨_, _, _, _, _, _, _, _, _, zl_rows_of, zd_rows_of⟩ := saysD c (d := hd_rows_of) (List.mem_of_getElem? (i := 16) (by rfl))
  obtain ⟨_, _, _, _, _, _, _, _, _, zl_block_of, zd_block_of⟩ := saysD c (d := hd_block_of) (List.mem_of_getElem? (i := 17) (by rfl))
  obtain ⟨_, _, _, _, _, _, _, _, _, zl_row_of, zd_row_of⟩ := saysD c (d := hd_row_of) (List.mem_of_getElem? (i := 18) (by rfl))
  obtain ⟨_, _, _, _, _, _, _, _, _, zl_Helper_init, zd_Helper_init⟩ := saysD c (d := hd_Helper_init) (List.mem_of_getElem? (i := 19) (by rfl))
  obtain ⟨_, _, _, _, _, _, _, _, _, zl_l_cell, zd_l_cell⟩ := saysD c (d := hd_l_cell) (List.mem_of_getElem? (i := 20) (by rfl))
  obtain ⟨_, _, _, _, _, _, _, _, _, zl_l_mixed, zd_l_mixed⟩ := saysD c (d := hd_l_mixed) (List.mem_of_getElem? (i := 21) (by rfl))
  obtain ⟨_, _, _, _, _, _, _, _, _, zl_l_tree, zd_l_tree⟩ := saysD c (d := hd_l_tree) (List.mem_of_getElem? (i := 22) (by rfl))
  obtain ⟨_, _, _, _, _, _, _, _, _, zl_l_helper, zd_l_helper⟩ := saysD c (d := hd_l_helper) (List.mem_of_getElem? (i := 23) (by rfl))
  obtain ⟨_, _, _, _, _, _, _, _, _, zl_l_flat, zd_l_flat⟩ := saysD c (d := hd_l_flat) (List.mem_of_getElem? (i := 24) (by rfl))
  obtain ⟨_, _, _, _, _, _, _, _, _, zl_l_walk, zd_l_walk⟩ := saysD c (d := hd_l_walk) (List.mem_of_getElem? (i := 25) (by rfl))
  obtain ⟨_, _, _, _, _, _, _, _, _, zl_is_way, zd_is_way⟩ := saysD c (d := hd_is_way) (List.mem_of_getElem? (i := 26) (by rfl))
  obtain ⟨_, _, _, _, _, _, _, _, _, zl_traced, zd_traced⟩ := saysD c (d := hd_traced) (List.mem_of_getElem? (i := 27) (by rfl))
  obtain ⟨_, _, _, _, _, _, _, _, _, zl_nearest, zd_nearest⟩ := saysD c (d := hd_nearest) (List.mem_of_getElem? (i := 28) (by rfl))
  obtain ⟨_, _, _, _, _, _, _, _, _, zl_tracked, zd_tracked⟩ := saysD c (d := hd_tracked) (List.mem_of_getElem? (i := 29) (by rfl))
  obtain ⟨_, _, _, _, _, _, _, _, _, zl_l_bit, zd_l_bit⟩ := saysD c (d := hd_l_bit) (List.mem_of_getElem? (i := 30) (by rfl))
  obtain ⟨_, _, _, _, _, _, _, _, _, zl_l_run, zd_l_run⟩ := saysD c (d := hd_l_run) (List.mem_of_getElem? (i := 31) (by rfl))
  obtain ⟨_, _, _, _, _, _, _, _, _, zl_law, zd_law⟩ := saysD c (d := hd_law) (List.mem_of_getElem? (i := 32) (by rfl))
  exact all_mk X G hfa (He.eqO_ok (hfact0 c 0)) (He.eqO_ok (hfact0 c 1)) (He.eqO_ok (hfact0 c 2)) (He.eqO_ok (hfact0 c 3)) (He.eqO_ok (hfact0 c 4)) (He.eqO_ok (hfact0 c 5)) (He.eqO_ok (hfact0 c 6)) (hfact0 c 7) (hfact0 c 8) (hfact0 c 9) (He.eqO_ok (hfact0 c 10)) (hfact0 c 11) (hfact0 c 12) (He.eqO_ok (hfact0 c 13)) (He.eqO_ok (hfact0 c 14)) (hfact0 c 15) (hfact0 c 16) (hfact0 c 17) (He.eqO_ok (hfact0 c 18)) (hfact0 c 19) (hfact0 c 20) (He.eqO_ok (hfact0 c 21)) (He.eqO_ok (hfact0 c 22)) (hfact0 c 23) (hfact0 c 24) (hfact1 c 0) (He.eqO_ok (hfact1 c 1)) (hfact1 c 2) (hfact1 c 3) (He.eqO_ok (hfact1 c 4)) (He.eqO_ok (hfact1 c 5)) (He.eqO_ok (hfact1 c 6)) (He.eqO_ok (hfact1 c 7)) (hfact1 c 8) (hfact1 c 9) (hfact1 c 10) (He.eqO_ok (hfact1 c 11)) (hfact1 c 12) (hfact1 c 13) (He.eqO_ok (hfact1 c 14)) (He.eqO_ok (hfact1 c 15)) (He.eqO_ok (hfact1 c 16)) (hfact1 c 17) (hfact1 c 18) (hfact1 c 19) (He.eqO_ok (hfact1 c 20)) (hfact1 c 21) (hfact1 c 22) (He.eqO_ok (hfact1 c 23)) (He.eqO_ok (hfact1 c 24)) (He.eqO_ok (hfact2 c 0)) (He.eqO_ok (hfact2 c 1)) (He.eqO_ok (hfact2 c 2)) zl_count_of zd_count_of (hfact2 c 3) (He.eqO_ok (hfact2 c 4)) zl_link zd_link (hfact2 c 5) (He.eqO_ok (hfact2 c 6)) zl_begin_of zd_begin_of (hfact2 c 7) (He.eqO_ok (hfact2 c 8)) zl_followers_of zd_followers_of (hfact2 c 9) (He.eqO_ok (hfact2 c 10)) zl_all_told zd_all_told (hfact2 c 11) (He.eqO_ok (hfact2 c 12)) (He.eqO_ok (hfact2 c 13)) (hfact2 c 14) zl_Row_inner zd_Row_inner (hfact2 c 15) (He.eqO_ok (hfact2 c 16)) (hfact2 c 17) zl_BackRow_init zd_BackRow_init (hfact2 c 18) (He.eqO_ok (hfact2 c 19)) (hfact2 c 20) zl_BackRow_told zd_BackRow_told (hfact2 c 21) (He.eqO_ok (hfact2 c 22)) (hfact2 c 23) zl_TellRow_init zd_TellRow_init (hfact2 c 24) (He.eqO_ok (hfact3 c 0)) (hfact3 c 1) zl_TellRow_told zd_TellRow_told (hfact3 c 2) (He.eqO_ok (hfact3 c 3)) (hfact3 c 4) zl_IfRow_init zd_IfRow_init (hfact3 c 5) (He.eqO_ok (hfact3 c 6)) (hfact3 c 7) zl_IfRow_told zd_IfRow_told (hfact3 c 8) (He.eqO_ok (hfact3 c 9)) (hfact3 c 10) zl_IfRow_inner zd_IfRow_inner (hfact3 c 11) (He.eqO_ok (hfact3 c 12)) (hfact3 c 13) zl_WhileRow_init zd_WhileRow_init (hfact3 c 14) (He.eqO_ok (hfact3 c 15)) (hfact3 c 16) zl_WhileRow_told zd_WhileRow_told (hfact3 c 17) (He.eqO_ok (hfact3 c 18)) (hfact3 c 19) zl_WhileRow_inner zd_WhileRow_inner (hfact3 c 20) (He.eqO_ok (hfact3 c 21)) zl_rows_of zd_rows_of (hfact3 c 22) (He.eqO_ok (hfact3 c 23)) zl_block_of zd_block_of (hfact3 c 24) (He.eqO_ok (hfact4 c 0)) zl_row_of zd_row_of (hfact4 c 1) (He.eqO_ok (hfact4 c 2)) (hfact4 c 3) zl_Helper_init zd_Helper_init (hfact4 c 4) (He.eqO_ok (hfact4 c 5)) zl_l_cell zd_l_cell (hfact4 c 6) (He.eqO_ok (hfact4 c 7)) zl_l_mixed zd_l_mixed (hfact4 c 8) (He.eqO_ok (hfact4 c 9)) zl_l_tree zd_l_tree (hfact4 c 10) (He.eqO_ok (hfact4 c 11)) zl_l_helper zd_l_helper (hfact4 c 12) (He.eqO_ok (hfact4 c 13)) zl_l_flat zd_l_flat (hfact4 c 14) (He.eqO_ok (hfact4 c 15)) zl_l_walk zd_l_walk (hfact4 c 16) (He.eqO_ok (hfact4 c 17)) zl_is_way zd_is_way (hfact4 c 18) (He.eqO_ok (hfact4 c 19)) zl_traced zd_traced (hfact4 c 20) (He.eqO_ok (hfact4 c 21)) zl_nearest zd_nearest (hfact4 c 22) (He.eqO_ok (hfact4 c 23)) zl_tracked zd_tracked (hfact4 c 24) (He.eqO_ok (hfact5 c 0)) zl_l_bit zd_l_bit (hfact5 c 1) (He.eqO_ok (hfact5 c 2)) zl_l_run zd_l_run (hfact5 c 3) (He.eqO_ok (hfact5 c 4)) zl_law zd_law (hfact5 c 5)
end My
open PySem PySem.W PySem.Calls PyProof.Rows
set_option maxRecDepth 100000 in
set_option maxHeartbeats 0 in
theorem PySem.Challenge.cw_holders_k25_whole_what_is_run_is_a_way_holds : PySem.Challenge.rw_holders_k25_whole_what_is_run_is_a_way.Holds := by
  w_on; o_law
  refine HandSHeadRun.head_any (r := My.R) (q := My.qv) (H := My.hk) (ob := My.ob) (M := 20000) (loose := My.nms) (d := HandSHeadRun.topDef (OpenLaw.row PySem.Challenge.rw_holders_k25_whole_what_is_run_is_a_way).prog 47) (kwd := []) My.ob_eq
    (by kernel_rfl) (fun s => by kernel_rfl) My.run (by kernel_rfl) (by kernel_rfl) (by kernel_rfl) (by rfl) (by first | assumption | decide +kernel) (by decide +kernel) ⟨rfl, rfl, rfl, rfl, rfl, by decide +kernel⟩ ?hw ?hc
  case hw => w_witness2
  case hc =>
    refine L2.walk_ofE (l := PySem.Challenge.rw_holders_k25_whole_what_is_run_is_a_way) (n := 63) (k := 40) (x := "_law_script") (CX := L2.CX0) rfl (by decide) (by kernel_rfl) ⟨rfl, by decide, by decide⟩ ?F (fun _ _ _ _ z => z)
    intro w mg fa h Y G hmg0
    obtain ⟨K, KX, c⟩ := Y
    have hmg : mg ("law" : PySem.Str) = some (.ref fa) := by
      have e : (HandSHeadRun.topDef (OpenLaw.row PySem.Challenge.rw_holders_k25_whole_what_is_run_is_a_way).prog 47).name = ("law" : PySem.Str) := by kernel_rfl
      rw [← e]
      exact hmg0
    obtain ⟨fd, hb, hF⟩ := My.facts (l := PySem.Challenge.rw_holders_k25_whole_what_is_run_is_a_way) (w := w) KX G hmg c
    exact ⟨K, fd, My.spLaw K, KX, hb, fun H a ns hl _ hS => ⟨a, ns, rfl, hS, hl, fun _ => rfl⟩, hF⟩

