import PyProof.Rows.All
import Wide.All
import OpenK.AllK
import Wide.FinOn
import KE.KStateDown
import HandS.Head0
import HandS.Head1
import HandS.Head2
import HandS.HeadEnd
import HandS.HeadHook1
import HandS.ForMost
import HandS.More
import HandS.IsInst
import HandS.Strs
import HandS.Wide
import HandS.Zip
import HandS.TupAny
import HandS.Exc
import HandS.TryOnly
import HandS.ExcOwn
import HandS.WordsExc
import HandS.ExcIs
import HandS.ExcInit
import HandS.ExcField
import HandS.ExcSuper
import HandS.RaiseMore
import HandS.MapJoin
import HandS.Flow
import HandS.FStr
import KE.IntTextLaws
import PyProof.Rows.StrSplitJoin
import HandS.Deep
import HandS.Walk
import PySem.Challenge.RW_holders_k07_bounds
set_option linter.all false
set_option Elab.async false
set_option maxRecDepth 100000
set_option maxHeartbeats 4000000
namespace My
open PySem L2
set_option linter.all false
set_option Elab.async false
/-! ### isinstance among the program's own classes: the facts as one -/
def isiB (K : PySem.W.Frag) (cs : List Addr) (r : Addr) : Bool :=
  decide (PySem.W.specialIn K (.builtin "object.__class__") "__get__" = some (some (.builtin "getset_descriptor.__get__"))) && (decide (PySem.W.takesIn K (.builtin "object.__class__") = some true) &&
    cs.zipIdx.all fun c => decide (PySem.W.findIn K (.ref c.1) "__class__" = some (some (.builtin "object.__class__"))) && (decide (PySem.W.mroIn K c.1 (.type "object") = some true) &&
      (decide (PySem.W.kitOne K (.ref c.1) (.ref r) = some true) && cs.zipIdx.all fun d => decide (PySem.W.kitOne K (.ref c.1) (.ref d.1) = some (c.2 == d.2)))))
structure IsiAt (K : PySem.W.Frag) (cs : List Addr) (r : Addr) (i : Nat) (c : Addr) : Prop where
  hn : PySem.W.specialIn K (.builtin "object.__class__") "__get__" = some (some (.builtin "getset_descriptor.__get__"))
  htk : PySem.W.takesIn K (.builtin "object.__class__") = some true
  ha : PySem.W.findIn K (.ref c) "__class__" = some (some (.builtin "object.__class__"))
  hm : PySem.W.mroIn K c (.type "object") = some true
  hr : PySem.W.kitOne K (.ref c) (.ref r) = some true
  hk : ∀ (j : Nat) (d : Addr), cs[j]? = some d → PySem.W.kitOne K (.ref c) (.ref d) = some (i == j)
theorem isi_at {K : PySem.W.Frag} {cs : List Addr} {r : Addr} (h : isiB K cs r = true) (i : Nat) {c : Addr} (hc : cs[i]? = some c) : IsiAt K cs r i c := by
  unfold isiB at h
  simp only [Bool.and_eq_true, decide_eq_true_eq, List.all_eq_true] at h
  obtain ⟨h1, h2, h3⟩ := h
  have m : ∀ (j : Nat) (d : Addr), cs[j]? = some d → (d, j) ∈ cs.zipIdx := fun j d hd => by
    rw [List.mem_zipIdx_iff_getElem?]
    exact hd
  obtain ⟨h4, h5, h6, h7⟩ := h3 _ (m i c hc)
  exact ⟨h1, h2, h4, h5, h6, fun j d hd => h7 _ (m j d hd)⟩
/-! ### own exceptions over a class of one's own over ValueError -/
section
open PySem.Spec PyProof.Rows
def oexCB (K : PySem.W.Frag) (C : Addr) : Bool := match K.lookup C with
  | some ⟨.type "type", _, .cls cd, sl⟩ => (match sl.toList with
    | [_, _, _, _, some (.builtin n), _] => n == "ValueError.__new__" && (!cd.hasDel && (cd.hasDict && (match cd.mro with
      | m :: bm => m == .ref C && PySem.HandSPX.refsVE bm
      | [] => false)))
    | _ => false)
  | _ => false
theorem oexCB_ok {K : PySem.W.Frag} {C : Addr} (h : oexCB K C = true) : ∃ nm q N bs bm sn sub ab col dd k0 k1 k2 k3 k5, K.lookup C = some (excClassObj nm q C N bs bm true sn sub ab col dd k0 k1 k2 k3 k5 "ValueError.__new__") ∧ PySem.HandSPX.refsVE bm = true := by
  unfold oexCB at h
  split at h
  · rename_i dd cd sl ho
    split at h
    · rename_i k0 k1 k2 k3 n k5 hs
      simp only [Bool.and_eq_true, beq_iff_eq, Bool.not_eq_true'] at h
      obtain ⟨rfl, hdel, hdict, hmro⟩ := h
      obtain ⟨nm, bs, mro, ns, qn, hd, sn, sub, ab, col, del⟩ := cd
      dsimp only at hdel hdict hmro
      subst hdel hdict
      split at hmro
      · rename_i m bm
        simp only [Bool.and_eq_true, beq_iff_eq] at hmro
        obtain ⟨rfl, hbm⟩ := hmro
        have hsl : sl = #[k0, k1, k2, k3, some (.builtin "ValueError.__new__"), k5] := by
          obtain ⟨l⟩ := sl
          simp only at hs
          rw [hs]
        subst hsl
        exact ⟨nm, qn, ns, bs, bm, sn, sub, ab, col, dd, k0, k1, k2, k3, k5, ho, hbm⟩
      · cases hmro
    · cases h
  · cases h
/-- a class of one's own whose __init__ is ValueError's -/
structure HoldC (K : PySem.W.Frag) (C : Addr) : Prop where
  ga : PySem.W.specialIn K (.ref C) "__getattribute__" = some (some (.builtin "type.__getattribute__"))
  rd : PySem.W.readsIn K C (.type "type") = true
  fc : PySem.W.findCls K (.ref C) (.type "type") "__init__" = some (.val (.builtin "ValueError.__init__"))
def holdB (K : PySem.W.Frag) (C : Addr) : Bool := (PySem.W.specialIn K (.ref C) "__getattribute__" == some (some (.builtin "type.__getattribute__"))) && (PySem.W.readsIn K C (.type "type") &&
  (match PySem.W.findCls K (.ref C) (.type "type") "__init__" with
  | some (.val (.builtin n)) => n == "ValueError.__init__"
  | _ => false))
theorem holdB_ok {K : PySem.W.Frag} {C : Addr} (h : holdB K C = true) : HoldC K C := by
  unfold holdB at h
  rw [Bool.and_eq_true, Bool.and_eq_true] at h
  refine ⟨eq_of_beq h.1, h.2.1, ?_⟩
  have h2 := h.2.2
  split at h2
  · rename_i n e
    rw [e, eq_of_beq h2]
  · cases h2
section
variable {X : Cx} {e : Expr} {es : List Expr} {ta : TA} {p1 p2 pos : Pos}
theorem pe_hinit {x : Str} {C0 : Addr} {pl : Sem Bool} (hg : Gl X x) (hm : X.mg x = some (.ref C0)) (hC : HoldC X.K C0) (ha : PA X (e :: es) ta) (hdb : (x == ("__debug__" : Str)) = false := by decide)
    (hc : eval (.Call (.Attribute (.Name x p1) "__init__" p2) (e :: es) [] pos) X.env = (do
      let ov ← eval (.Name x p1) X.env
      standAt p2.atName
      let (f, first) ← holding [ov] (getMethod ov "__init__" pl)
      callWith pos f first (backTo pos (starEach (e :: es) X.env)) (backToKw pos (keywordEach [] X.env))) := by rfl)
    (he : starEach (e :: es) X.env = (false, eval e X.env) :: starEach es X.env := by rfl) (hpl : (backTo pos (starEach es X.env)).any (·.1) = false := by rfl) :
    PE X (.Call (.Attribute (.Name x p1) "__init__" p2) (e :: es) [] pos) (tVeI X.K ta) := by
  refine ⟨fun pins s σ H Q I h => ?_⟩
  refine PySem.W.methodCall_KW (ld_glob I hg hm ?_ hdb) hc
  refine PySem.W.method_cls I.kIn hC.ga (PySem.W.cls_value I.kIn hC.rd hC.fc (by decide +kernel) ?_)
  show wpAny _ _ (callWith pos (Value.builtin "ValueError.__init__") [] (backTo pos (starEach (e :: es) X.env)) []) _ _ _
  refine PyProof.Rows.callWith_method1 (thn (ha.run pos pins _ σ H _ (I.tok _) h) fun us s1 ⟨vs, H1, I1, r1, a, C, ws, ev, hl, T, ea, q⟩ => ?_) he hpl
  subst ev
  cases r1 with
  | @cons _ u0 _ ur ra rw' =>
    obtain rfl : u0 = Value.ref a := ra
    have hlen : ur.length ≤ sizeLine := by
      rw [← Paired.length rw', sizeLine_eq]
      omega
    exact oinit_ok T I1 ea hlen fun s' J => ⟨.non, H1, J, rfl, q⟩
end
end
theorem w_vei {K : PySem.W.Frag} {σ : L2.St} {H : Hp} {Q : VK} {ta : TA} (h : ta σ H fun vs H1 => ∃ (a C : Addr) (ws : List V), vs = .ref a :: ws ∧ ws.length ≤ 1000 ∧ OexC K C ∧ H1 a = some (exo a C none) ∧ Q .non H1) : tVeI K ta σ H Q := h
theorem w_ost {K : PySem.W.Frag} {σ : L2.St} {H : Hp} {D : Ends} {f : Str} {to te : TE} (h : te σ H fun y H1 => to σ H1 fun x H2 => ∃ a C : Addr, x = .ref a ∧ OexC K C ∧ PySem.W.findIn K (.ref C) f = some none ∧
  ((H2 a = some (exo a C none) ∧ ∀ dx, H2 dx = none → dx ≠ a → D.nx σ (upd (upd H2 dx (exd dx [(f, y)])) a (exo a C (some dx)))) ∨
    ∃ (dx : Addr) (fs : List (Str × V)), H2 a = some (exo a C (some dx)) ∧ H2 dx = some (exd dx fs) ∧ fs.length ≤ 900 ∧ D.nx σ (upd H2 dx (exd dx ((f, y) :: fs))))) : tOst K f to te D σ H := h
theorem w_mkO2 {C : Addr} {sp : Sp} {dvs : List V} {ta : TA} {σ : L2.St} {H : Hp} {Q : XK} (h : ta σ H fun vs H1 => vs.length ≤ 1000 ∧ ∀ a, H1 a = none → sp (.ref a :: (vs ++ dvs)) (upd H1 a (exo a C none))
  (fun v H2 => v = .non ∧ ∃ (d : Addr) (fs : List (Str × V)), H2 a = some (exo a C (some d)) ∧ H2 d = some (exd d fs) ∧ H1 d = none ∧ Q (.ref C) (some d) (upd (del H2 a) d (.xd fs))) (fun _ _ _ => False)) : tMkO C sp dvs ta σ H Q := h
def top (i : Nat) : Stmt := PySem.Challenge.pw_holders_k07_bounds.main.body.getD i (.Pass ⟨0, 0, 0, 0⟩)
abbrev s_NoText_init : Stmt := inClass (top 2) 0
abbrev s_shown : Stmt := top 4
abbrev s_Row_head : Stmt := inClass (top 6) 1
abbrev s_SetRow_init : Stmt := inClass (top 7) 0
abbrev s_SetRow_told : Stmt := inClass (top 7) 1
abbrev s_MakeRow_init : Stmt := inClass (top 8) 0
abbrev s_MakeRow_told : Stmt := inClass (top 8) 1
abbrev s_NoneRow_init : Stmt := inClass (top 9) 0
abbrev s_NoneRow_told : Stmt := inClass (top 9) 1
abbrev s_GiveRow_init : Stmt := inClass (top 10) 0
abbrev s_GiveRow_told : Stmt := inClass (top 10) 1
abbrev s_TakeRow_init : Stmt := inClass (top 11) 0
abbrev s_TakeRow_told : Stmt := inClass (top 11) 1
abbrev s_FillRow_init : Stmt := inClass (top 12) 0
abbrev s_FillRow_told : Stmt := inClass (top 12) 1
abbrev s_SwapRow_init : Stmt := inClass (top 13) 0
abbrev s_SwapRow_told : Stmt := inClass (top 13) 1
abbrev s_GetRow_init : Stmt := inClass (top 14) 0
abbrev s_GetRow_told : Stmt := inClass (top 14) 1
abbrev s_PutRow_init : Stmt := inClass (top 15) 0
abbrev s_PutRow_told : Stmt := inClass (top 15) 1
abbrev s_HasRow_init : Stmt := inClass (top 16) 0
abbrev s_HasRow_told : Stmt := inClass (top 16) 1
abbrev s_DropRow_init : Stmt := inClass (top 17) 0
abbrev s_DropRow_told : Stmt := inClass (top 17) 1
abbrev s_LendRow_init : Stmt := inClass (top 18) 0
abbrev s_LendRow_told : Stmt := inClass (top 18) 1
abbrev s_StepRow_init : Stmt := inClass (top 19) 0
abbrev s_StepRow_told : Stmt := inClass (top 19) 1
abbrev s_CallRow_init : Stmt := inClass (top 20) 0
abbrev s_CallRow_told : Stmt := inClass (top 20) 1
abbrev s_BackRow_init : Stmt := inClass (top 21) 0
abbrev s_BackRow_told : Stmt := inClass (top 21) 1
abbrev s_AskRow_init : Stmt := inClass (top 22) 0
abbrev s_AskRow_told : Stmt := inClass (top 22) 1
abbrev s_TellRow_init : Stmt := inClass (top 23) 0
abbrev s_TellRow_told : Stmt := inClass (top 23) 1
abbrev s_IfRow_init : Stmt := inClass (top 24) 0
abbrev s_IfRow_told : Stmt := inClass (top 24) 1
abbrev s_WhileRow_init : Stmt := inClass (top 25) 0
abbrev s_WhileRow_told : Stmt := inClass (top 25) 1
abbrev s_Record_init : Stmt := inClass (top 27) 0
abbrev s_Record_told : Stmt := inClass (top 27) 1
abbrev s_Helper_init : Stmt := inClass (top 28) 0
abbrev s_Helper_told : Stmt := inClass (top 28) 1
abbrev s_Program_init : Stmt := inClass (top 29) 0
abbrev s_Program_told : Stmt := inClass (top 29) 1
abbrev s_SetRow_head : Stmt := inClass (top 7) 2
abbrev s_MakeRow_head : Stmt := inClass (top 8) 2
abbrev s_HasRow_head : Stmt := inClass (top 16) 2
abbrev s_CallRow_head : Stmt := inClass (top 20) 2
abbrev s_IfRow_head : Stmt := inClass (top 24) 2
abbrev s_WhileRow_head : Stmt := inClass (top 25) 2
abbrev s_all_told : Stmt := top 5
abbrev s_is_name : Stmt := top 44
abbrev s_is_kind : Stmt := top 45
abbrev s_number_of : Stmt := top 46
abbrev s_atom_of : Stmt := top 47
abbrev s_path_of : Stmt := top 48
abbrev s_given_of : Stmt := top 49
abbrev s_set_of : Stmt := top 50
abbrev s_make_of : Stmt := top 51
abbrev s_call_of : Stmt := top 52
abbrev s_path_row_of : Stmt := top 53
abbrev s_pair_row_of : Stmt := top 54
abbrev s_into_row_of : Stmt := top 55
abbrev s_single_row_of : Stmt := top 56
abbrev s_row_by : Stmt := top 57
abbrev s_record_by : Stmt := top 58
abbrev s_param_by : Stmt := top 59
abbrev s_Head_init : Stmt := inClass (top 60) 0
abbrev s_head_by : Stmt := top 61
abbrev s_Block_init : Stmt := inClass (top 62) 0
abbrev s_Block_put : Stmt := inClass (top 62) 1
abbrev s_Reader_init : Stmt := inClass (top 63) 0
abbrev s_Reader_opened : Stmt := inClass (top 63) 1
abbrev s_Reader_turned : Stmt := inClass (top 63) 2
abbrev s_Reader_shut : Stmt := inClass (top 63) 3
abbrev s_Reader_finished : Stmt := inClass (top 63) 4
abbrev s_Reader_within : Stmt := inClass (top 63) 5
abbrev s_Reader_without : Stmt := inClass (top 63) 6
abbrev s_Reader_good : Stmt := inClass (top 63) 7
abbrev s_read : Stmt := top 64
abbrev s_Row_inner : Stmt := inClass (top 6) 2
abbrev s_IfRow_inner : Stmt := inClass (top 24) 3
abbrev s_WhileRow_inner : Stmt := inClass (top 25) 3
abbrev s_l_draw : Stmt := top 66
abbrev s_l_rows_by : Stmt := top 67
abbrev s_l_last_row : Stmt := top 68
abbrev s_l_built : Stmt := top 69
abbrev s_l_counts : Stmt := top 70
abbrev s_law : Stmt := top 71
theorem sc_NoText_init : FnScope ["self", "where"] ["self", "where"] (defScope s_NoText_init) := ⟨rfl, rfl, rfl, by decide +kernel, rfl, by decide +kernel, by decide +kernel⟩
theorem sc_shown : FnScope ["thing"] ["thing"] (defScope s_shown) := ⟨rfl, rfl, rfl, by decide +kernel, rfl, by decide +kernel, by decide +kernel⟩
theorem sc_Row_head : FnScope ["self", "part"] ["self"] (defScope s_Row_head) := ⟨rfl, rfl, rfl, by decide +kernel, rfl, by decide +kernel, by decide +kernel⟩
theorem sc_SetRow_init : FnScope ["self", "name", "one", "sign", "other"] ["self", "name", "one", "sign", "other"] (defScope s_SetRow_init) := ⟨rfl, rfl, rfl, by decide +kernel, rfl, by decide +kernel, by decide +kernel⟩
theorem sc_SetRow_told : FnScope ["self"] ["self"] (defScope s_SetRow_told) := ⟨rfl, rfl, rfl, by decide +kernel, rfl, by decide +kernel, by decide +kernel⟩
theorem sc_MakeRow_init : FnScope ["self", "name", "record", "atoms"] ["self", "name", "record", "atoms"] (defScope s_MakeRow_init) := ⟨rfl, rfl, rfl, by decide +kernel, rfl, by decide +kernel, by decide +kernel⟩
theorem sc_MakeRow_told : FnScope ["self"] ["self"] (defScope s_MakeRow_told) := ⟨rfl, rfl, rfl, by decide +kernel, rfl, by decide +kernel, by decide +kernel⟩
theorem sc_NoneRow_init : FnScope ["self", "name", "record"] ["self", "name", "record"] (defScope s_NoneRow_init) := ⟨rfl, rfl, rfl, by decide +kernel, rfl, by decide +kernel, by decide +kernel⟩
theorem sc_NoneRow_told : FnScope ["self"] ["self"] (defScope s_NoneRow_told) := ⟨rfl, rfl, rfl, by decide +kernel, rfl, by decide +kernel, by decide +kernel⟩
theorem sc_GiveRow_init : FnScope ["self", "name", "other"] ["self", "name", "other"] (defScope s_GiveRow_init) := ⟨rfl, rfl, rfl, by decide +kernel, rfl, by decide +kernel, by decide +kernel⟩
theorem sc_GiveRow_told : FnScope ["self"] ["self"] (defScope s_GiveRow_told) := ⟨rfl, rfl, rfl, by decide +kernel, rfl, by decide +kernel, by decide +kernel⟩
theorem sc_TakeRow_init : FnScope ["self", "name", "path"] ["self", "name", "path"] (defScope s_TakeRow_init) := ⟨rfl, rfl, rfl, by decide +kernel, rfl, by decide +kernel, by decide +kernel⟩
theorem sc_TakeRow_told : FnScope ["self"] ["self"] (defScope s_TakeRow_told) := ⟨rfl, rfl, rfl, by decide +kernel, rfl, by decide +kernel, by decide +kernel⟩
theorem sc_FillRow_init : FnScope ["self", "path", "name"] ["self", "path", "name"] (defScope s_FillRow_init) := ⟨rfl, rfl, rfl, by decide +kernel, rfl, by decide +kernel, by decide +kernel⟩
theorem sc_FillRow_told : FnScope ["self"] ["self"] (defScope s_FillRow_told) := ⟨rfl, rfl, rfl, by decide +kernel, rfl, by decide +kernel, by decide +kernel⟩
theorem sc_SwapRow_init : FnScope ["self", "name", "path"] ["self", "name", "path"] (defScope s_SwapRow_init) := ⟨rfl, rfl, rfl, by decide +kernel, rfl, by decide +kernel, by decide +kernel⟩
theorem sc_SwapRow_told : FnScope ["self"] ["self"] (defScope s_SwapRow_told) := ⟨rfl, rfl, rfl, by decide +kernel, rfl, by decide +kernel, by decide +kernel⟩
theorem sc_GetRow_init : FnScope ["self", "name", "path"] ["self", "name", "path"] (defScope s_GetRow_init) := ⟨rfl, rfl, rfl, by decide +kernel, rfl, by decide +kernel, by decide +kernel⟩
theorem sc_GetRow_told : FnScope ["self"] ["self"] (defScope s_GetRow_told) := ⟨rfl, rfl, rfl, by decide +kernel, rfl, by decide +kernel, by decide +kernel⟩
theorem sc_PutRow_init : FnScope ["self", "path", "atom"] ["self", "path", "atom"] (defScope s_PutRow_init) := ⟨rfl, rfl, rfl, by decide +kernel, rfl, by decide +kernel, by decide +kernel⟩
theorem sc_PutRow_told : FnScope ["self"] ["self"] (defScope s_PutRow_told) := ⟨rfl, rfl, rfl, by decide +kernel, rfl, by decide +kernel, by decide +kernel⟩
theorem sc_HasRow_init : FnScope ["self", "name", "path"] ["self", "name", "path"] (defScope s_HasRow_init) := ⟨rfl, rfl, rfl, by decide +kernel, rfl, by decide +kernel, by decide +kernel⟩
theorem sc_HasRow_told : FnScope ["self"] ["self"] (defScope s_HasRow_told) := ⟨rfl, rfl, rfl, by decide +kernel, rfl, by decide +kernel, by decide +kernel⟩
theorem sc_DropRow_init : FnScope ["self", "name"] ["self", "name"] (defScope s_DropRow_init) := ⟨rfl, rfl, rfl, by decide +kernel, rfl, by decide +kernel, by decide +kernel⟩
theorem sc_DropRow_told : FnScope ["self"] ["self"] (defScope s_DropRow_told) := ⟨rfl, rfl, rfl, by decide +kernel, rfl, by decide +kernel, by decide +kernel⟩
theorem sc_LendRow_init : FnScope ["self", "mode", "name", "path"] ["self", "mode", "name", "path"] (defScope s_LendRow_init) := ⟨rfl, rfl, rfl, by decide +kernel, rfl, by decide +kernel, by decide +kernel⟩
theorem sc_LendRow_told : FnScope ["self"] ["self"] (defScope s_LendRow_told) := ⟨rfl, rfl, rfl, by decide +kernel, rfl, by decide +kernel, by decide +kernel⟩
theorem sc_StepRow_init : FnScope ["self", "name", "field"] ["self", "name", "field"] (defScope s_StepRow_init) := ⟨rfl, rfl, rfl, by decide +kernel, rfl, by decide +kernel, by decide +kernel⟩
theorem sc_StepRow_told : FnScope ["self"] ["self"] (defScope s_StepRow_told) := ⟨rfl, rfl, rfl, by decide +kernel, rfl, by decide +kernel, by decide +kernel⟩
theorem sc_CallRow_init : FnScope ["self", "name", "helper", "given"] ["self", "name", "helper", "given"] (defScope s_CallRow_init) := ⟨rfl, rfl, rfl, by decide +kernel, rfl, by decide +kernel, by decide +kernel⟩
theorem sc_CallRow_told : FnScope ["self"] ["self"] (defScope s_CallRow_told) := ⟨rfl, rfl, rfl, by decide +kernel, rfl, by decide +kernel, by decide +kernel⟩
theorem sc_BackRow_init : FnScope ["self", "atom"] ["self", "atom"] (defScope s_BackRow_init) := ⟨rfl, rfl, rfl, by decide +kernel, rfl, by decide +kernel, by decide +kernel⟩
theorem sc_BackRow_told : FnScope ["self"] ["self"] (defScope s_BackRow_told) := ⟨rfl, rfl, rfl, by decide +kernel, rfl, by decide +kernel, by decide +kernel⟩
theorem sc_AskRow_init : FnScope ["self", "name"] ["self", "name"] (defScope s_AskRow_init) := ⟨rfl, rfl, rfl, by decide +kernel, rfl, by decide +kernel, by decide +kernel⟩
theorem sc_AskRow_told : FnScope ["self"] ["self"] (defScope s_AskRow_told) := ⟨rfl, rfl, rfl, by decide +kernel, rfl, by decide +kernel, by decide +kernel⟩
theorem sc_TellRow_init : FnScope ["self", "atom"] ["self", "atom"] (defScope s_TellRow_init) := ⟨rfl, rfl, rfl, by decide +kernel, rfl, by decide +kernel, by decide +kernel⟩
theorem sc_TellRow_told : FnScope ["self"] ["self"] (defScope s_TellRow_told) := ⟨rfl, rfl, rfl, by decide +kernel, rfl, by decide +kernel, by decide +kernel⟩
theorem sc_IfRow_init : FnScope ["self", "atom", "rows", "others"] ["self", "atom", "rows", "others"] (defScope s_IfRow_init) := ⟨rfl, rfl, rfl, by decide +kernel, rfl, by decide +kernel, by decide +kernel⟩
theorem sc_IfRow_told : FnScope ["self"] ["self"] (defScope s_IfRow_told) := ⟨rfl, rfl, rfl, by decide +kernel, rfl, by decide +kernel, by decide +kernel⟩
theorem sc_WhileRow_init : FnScope ["self", "atom", "rows"] ["self", "atom", "rows"] (defScope s_WhileRow_init) := ⟨rfl, rfl, rfl, by decide +kernel, rfl, by decide +kernel, by decide +kernel⟩
theorem sc_WhileRow_told : FnScope ["self"] ["self"] (defScope s_WhileRow_told) := ⟨rfl, rfl, rfl, by decide +kernel, rfl, by decide +kernel, by decide +kernel⟩
theorem sc_Record_init : FnScope ["self", "name", "fields"] ["self", "name", "fields"] (defScope s_Record_init) := ⟨rfl, rfl, rfl, by decide +kernel, rfl, by decide +kernel, by decide +kernel⟩
theorem sc_Record_told : FnScope ["self"] ["self"] (defScope s_Record_told) := ⟨rfl, rfl, rfl, by decide +kernel, rfl, by decide +kernel, by decide +kernel⟩
theorem sc_Helper_init : FnScope ["self", "name", "params", "gives", "rows"] ["self", "name", "params", "gives", "rows"] (defScope s_Helper_init) := ⟨rfl, rfl, rfl, by decide +kernel, rfl, by decide +kernel, by decide +kernel⟩
theorem sc_Helper_told : FnScope ["self"] ["self"] (defScope s_Helper_told) := ⟨rfl, rfl, rfl, by decide +kernel, rfl, by decide +kernel, by decide +kernel⟩
theorem sc_Program_init : FnScope ["self", "records", "helpers"] ["self", "records", "helpers"] (defScope s_Program_init) := ⟨rfl, rfl, rfl, by decide +kernel, rfl, by decide +kernel, by decide +kernel⟩
theorem sc_Program_told : FnScope ["self"] ["self"] (defScope s_Program_told) := ⟨rfl, rfl, rfl, by decide +kernel, rfl, by decide +kernel, by decide +kernel⟩
theorem sc_SetRow_head : FnScope ["self"] ["self"] (defScope s_SetRow_head) := ⟨rfl, rfl, rfl, by decide +kernel, rfl, by decide +kernel, by decide +kernel⟩
theorem sc_MakeRow_head : FnScope ["self", "atom"] ["self"] (defScope s_MakeRow_head) := ⟨rfl, rfl, rfl, by decide +kernel, rfl, by decide +kernel, by decide +kernel⟩
theorem sc_HasRow_head : FnScope ["self"] ["self"] (defScope s_HasRow_head) := ⟨rfl, rfl, rfl, by decide +kernel, rfl, by decide +kernel, by decide +kernel⟩
theorem sc_CallRow_head : FnScope ["self", "words", "thing"] ["self"] (defScope s_CallRow_head) := ⟨rfl, rfl, rfl, by decide +kernel, rfl, by decide +kernel, by decide +kernel⟩
theorem sc_IfRow_head : FnScope ["self"] ["self"] (defScope s_IfRow_head) := ⟨rfl, rfl, rfl, by decide +kernel, rfl, by decide +kernel, by decide +kernel⟩
theorem sc_WhileRow_head : FnScope ["self"] ["self"] (defScope s_WhileRow_head) := ⟨rfl, rfl, rfl, by decide +kernel, rfl, by decide +kernel, by decide +kernel⟩
theorem sc_all_told : FnScope ["rows", "row"] ["rows"] (defScope s_all_told) := ⟨rfl, rfl, rfl, by decide +kernel, rfl, by decide +kernel, by decide +kernel⟩
theorem sc_is_name : FnScope ["word", "sign"] ["word"] (defScope s_is_name) := ⟨rfl, rfl, rfl, by decide +kernel, rfl, by decide +kernel, by decide +kernel⟩
theorem sc_is_kind : FnScope ["word"] ["word"] (defScope s_is_kind) := ⟨rfl, rfl, rfl, by decide +kernel, rfl, by decide +kernel, by decide +kernel⟩
theorem sc_number_of : FnScope ["word", "number", "sign"] ["word"] (defScope s_number_of) := ⟨rfl, rfl, rfl, by decide +kernel, rfl, by decide +kernel, by decide +kernel⟩
theorem sc_atom_of : FnScope ["word"] ["word"] (defScope s_atom_of) := ⟨rfl, rfl, rfl, by decide +kernel, rfl, by decide +kernel, by decide +kernel⟩
theorem sc_path_of : FnScope ["word", "parts", "part"] ["word"] (defScope s_path_of) := ⟨rfl, rfl, rfl, by decide +kernel, rfl, by decide +kernel, by decide +kernel⟩
theorem sc_given_of : FnScope ["word"] ["word"] (defScope s_given_of) := ⟨rfl, rfl, rfl, by decide +kernel, rfl, by decide +kernel, by decide +kernel⟩
theorem sc_set_of : FnScope ["words"] ["words"] (defScope s_set_of) := ⟨rfl, rfl, rfl, by decide +kernel, rfl, by decide +kernel, by decide +kernel⟩
theorem sc_make_of : FnScope ["words", "atoms", "word"] ["words"] (defScope s_make_of) := ⟨rfl, rfl, rfl, by decide +kernel, rfl, by decide +kernel, by decide +kernel⟩
theorem sc_call_of : FnScope ["words", "name", "rest", "given", "word"] ["words"] (defScope s_call_of) := ⟨rfl, rfl, rfl, by decide +kernel, rfl, by decide +kernel, by decide +kernel⟩
theorem sc_path_row_of : FnScope ["words", "path"] ["words"] (defScope s_path_row_of) := ⟨rfl, rfl, rfl, by decide +kernel, rfl, by decide +kernel, by decide +kernel⟩
theorem sc_pair_row_of : FnScope ["words"] ["words"] (defScope s_pair_row_of) := ⟨rfl, rfl, rfl, by decide +kernel, rfl, by decide +kernel, by decide +kernel⟩
theorem sc_into_row_of : FnScope ["words", "path"] ["words"] (defScope s_into_row_of) := ⟨rfl, rfl, rfl, by decide +kernel, rfl, by decide +kernel, by decide +kernel⟩
theorem sc_single_row_of : FnScope ["words"] ["words"] (defScope s_single_row_of) := ⟨rfl, rfl, rfl, by decide +kernel, rfl, by decide +kernel, by decide +kernel⟩
theorem sc_row_by : FnScope ["words"] ["words"] (defScope s_row_by) := ⟨rfl, rfl, rfl, by decide +kernel, rfl, by decide +kernel, by decide +kernel⟩
theorem sc_record_by : FnScope ["words", "parts", "k", "name", "kind"] ["words"] (defScope s_record_by) := ⟨rfl, rfl, rfl, by decide +kernel, rfl, by decide +kernel, by decide +kernel⟩
theorem sc_param_by : FnScope ["words", "good"] ["words"] (defScope s_param_by) := ⟨rfl, rfl, rfl, by decide +kernel, rfl, by decide +kernel, by decide +kernel⟩
theorem sc_Head_init : FnScope ["self", "name", "params", "gives"] ["self", "name", "params", "gives"] (defScope s_Head_init) := ⟨rfl, rfl, rfl, by decide +kernel, rfl, by decide +kernel, by decide +kernel⟩
theorem sc_head_by : FnScope ["words", "rest", "gives", "params", "found"] ["words"] (defScope s_head_by) := ⟨rfl, rfl, rfl, by decide +kernel, rfl, by decide +kernel, by decide +kernel⟩
theorem sc_Block_init : FnScope ["self", "word", "atom"] ["self", "word", "atom"] (defScope s_Block_init) := ⟨rfl, rfl, rfl, by decide +kernel, rfl, by decide +kernel, by decide +kernel⟩
theorem sc_Block_put : FnScope ["self", "row"] ["self", "row"] (defScope s_Block_put) := ⟨rfl, rfl, rfl, by decide +kernel, rfl, by decide +kernel, by decide +kernel⟩
theorem sc_Reader_init : FnScope ["self"] ["self"] (defScope s_Reader_init) := ⟨rfl, rfl, rfl, by decide +kernel, rfl, by decide +kernel, by decide +kernel⟩
theorem sc_Reader_opened : FnScope ["self", "words"] ["self", "words"] (defScope s_Reader_opened) := ⟨rfl, rfl, rfl, by decide +kernel, rfl, by decide +kernel, by decide +kernel⟩
theorem sc_Reader_turned : FnScope ["self", "block"] ["self"] (defScope s_Reader_turned) := ⟨rfl, rfl, rfl, by decide +kernel, rfl, by decide +kernel, by decide +kernel⟩
theorem sc_Reader_shut : FnScope ["self", "word", "block"] ["self", "word"] (defScope s_Reader_shut) := ⟨rfl, rfl, rfl, by decide +kernel, rfl, by decide +kernel, by decide +kernel⟩
theorem sc_Reader_finished : FnScope ["self", "head"] ["self"] (defScope s_Reader_finished) := ⟨rfl, rfl, rfl, by decide +kernel, rfl, by decide +kernel, by decide +kernel⟩
theorem sc_Reader_within : FnScope ["self", "words", "row"] ["self", "words"] (defScope s_Reader_within) := ⟨rfl, rfl, rfl, by decide +kernel, rfl, by decide +kernel, by decide +kernel⟩
theorem sc_Reader_without : FnScope ["self", "words", "record"] ["self", "words"] (defScope s_Reader_without) := ⟨rfl, rfl, rfl, by decide +kernel, rfl, by decide +kernel, by decide +kernel⟩
theorem sc_Reader_good : FnScope ["self", "words"] ["self", "words"] (defScope s_Reader_good) := ⟨rfl, rfl, rfl, by decide +kernel, rfl, by decide +kernel, by decide +kernel⟩
theorem sc_read : FnScope ["text", "reader", "lines", "number", "line", "words", "word"] ["text"] (defScope s_read) := ⟨rfl, rfl, rfl, by decide +kernel, rfl, by decide +kernel, by decide +kernel⟩
theorem sc_Row_inner : FnScope ["self"] ["self"] (defScope s_Row_inner) := ⟨rfl, rfl, rfl, by decide +kernel, rfl, by decide +kernel, by decide +kernel⟩
theorem sc_IfRow_inner : FnScope ["self"] ["self"] (defScope s_IfRow_inner) := ⟨rfl, rfl, rfl, by decide +kernel, rfl, by decide +kernel, by decide +kernel⟩
theorem sc_WhileRow_inner : FnScope ["self"] ["self"] (defScope s_WhileRow_inner) := ⟨rfl, rfl, rfl, by decide +kernel, rfl, by decide +kernel, by decide +kernel⟩
theorem sc_l_draw : FnScope ["_law_script", "_law_tape", "_law_many", "_law_k", "_law_cell", "_law_one", "_law_two"] ["_law_script", "_law_tape", "_law_many"] (defScope s_l_draw) := ⟨rfl, rfl, rfl, by decide +kernel, rfl, by decide +kernel, by decide +kernel⟩
theorem sc_l_rows_by : FnScope ["_law_many", "_law_cell", "_law_lines", "_law_made", "_law_block"] ["_law_many", "_law_cell"] (defScope s_l_rows_by) := ⟨rfl, rfl, rfl, by decide +kernel, rfl, by decide +kernel, by decide +kernel⟩
theorem sc_l_last_row : FnScope ["_law_lines", "_law_found", "_law_k", "_law_line"] ["_law_lines"] (defScope s_l_last_row) := ⟨rfl, rfl, rfl, by decide +kernel, rfl, by decide +kernel, by decide +kernel⟩
theorem sc_l_built : FnScope ["_law_sort", "_law_more", "_law_cell", "_law_lines", "_law_word", "_law_path", "_law_rows"] ["_law_sort", "_law_more", "_law_cell"] (defScope s_l_built) := ⟨rfl, rfl, rfl, by decide +kernel, rfl, by decide +kernel, by decide +kernel⟩
theorem sc_l_counts : FnScope ["_law_program", "_law_found", "_law_points", "_law_waiting", "_law_row", "_law_rows"] ["_law_program"] (defScope s_l_counts) := ⟨rfl, rfl, rfl, by decide +kernel, rfl, by decide +kernel, by decide +kernel⟩
theorem sc_law : FnScope ["_law_script", "_law_tape", "_law_turn", "_law_sort", "_law_cell", "_law_lines", "_law_where", "_law_caught", "e", "_law_found", "_law_rows", "_law_due", "_law_line"] ["_law_script"] (defScope s_law) := ⟨rfl, rfl, rfl, by decide +kernel, rfl, by decide +kernel, by decide +kernel⟩
structure Tx (K : PySem.W.Frag) (mg : Str → Option Value) where
  n_isinstance : mg "isinstance" = none
  n_tuple : mg "tuple" = none
  n_str : mg "str" = none
  n_len : mg "len" = none
  n_all : mg "all" = none
  n_int : mg "int" = none
  n_range : mg "range" = none
  n_enumerate : mg "enumerate" = none
  n_list : mg "list" = none
  n_bool : mg "bool" = none
  a_SetRow : Addr
  c_SetRow : mg "SetRow" = some (.ref a_SetRow)
  cl_SetRow : Cls K a_SetRow
  na_SetRow_name : NoAttr K a_SetRow "name"
  na_SetRow_one : NoAttr K a_SetRow "one"
  na_SetRow_sign : NoAttr K a_SetRow "sign"
  na_SetRow_other : NoAttr K a_SetRow "other"
  a_MakeRow : Addr
  c_MakeRow : mg "MakeRow" = some (.ref a_MakeRow)
  cl_MakeRow : Cls K a_MakeRow
  na_MakeRow_name : NoAttr K a_MakeRow "name"
  na_MakeRow_record : NoAttr K a_MakeRow "record"
  na_MakeRow_atoms : NoAttr K a_MakeRow "atoms"
  a_NoneRow : Addr
  c_NoneRow : mg "NoneRow" = some (.ref a_NoneRow)
  cl_NoneRow : Cls K a_NoneRow
  na_NoneRow_name : NoAttr K a_NoneRow "name"
  na_NoneRow_record : NoAttr K a_NoneRow "record"
  a_GiveRow : Addr
  c_GiveRow : mg "GiveRow" = some (.ref a_GiveRow)
  cl_GiveRow : Cls K a_GiveRow
  na_GiveRow_name : NoAttr K a_GiveRow "name"
  na_GiveRow_other : NoAttr K a_GiveRow "other"
  a_TakeRow : Addr
  c_TakeRow : mg "TakeRow" = some (.ref a_TakeRow)
  cl_TakeRow : Cls K a_TakeRow
  na_TakeRow_name : NoAttr K a_TakeRow "name"
  na_TakeRow_path : NoAttr K a_TakeRow "path"
  a_FillRow : Addr
  c_FillRow : mg "FillRow" = some (.ref a_FillRow)
  cl_FillRow : Cls K a_FillRow
  na_FillRow_path : NoAttr K a_FillRow "path"
  na_FillRow_name : NoAttr K a_FillRow "name"
  a_SwapRow : Addr
  c_SwapRow : mg "SwapRow" = some (.ref a_SwapRow)
  cl_SwapRow : Cls K a_SwapRow
  na_SwapRow_name : NoAttr K a_SwapRow "name"
  na_SwapRow_path : NoAttr K a_SwapRow "path"
  a_GetRow : Addr
  c_GetRow : mg "GetRow" = some (.ref a_GetRow)
  cl_GetRow : Cls K a_GetRow
  na_GetRow_name : NoAttr K a_GetRow "name"
  na_GetRow_path : NoAttr K a_GetRow "path"
  a_PutRow : Addr
  c_PutRow : mg "PutRow" = some (.ref a_PutRow)
  cl_PutRow : Cls K a_PutRow
  na_PutRow_path : NoAttr K a_PutRow "path"
  na_PutRow_atom : NoAttr K a_PutRow "atom"
  a_HasRow : Addr
  c_HasRow : mg "HasRow" = some (.ref a_HasRow)
  cl_HasRow : Cls K a_HasRow
  na_HasRow_name : NoAttr K a_HasRow "name"
  na_HasRow_path : NoAttr K a_HasRow "path"
  a_DropRow : Addr
  c_DropRow : mg "DropRow" = some (.ref a_DropRow)
  cl_DropRow : Cls K a_DropRow
  na_DropRow_name : NoAttr K a_DropRow "name"
  a_LendRow : Addr
  c_LendRow : mg "LendRow" = some (.ref a_LendRow)
  cl_LendRow : Cls K a_LendRow
  na_LendRow_mode : NoAttr K a_LendRow "mode"
  na_LendRow_name : NoAttr K a_LendRow "name"
  na_LendRow_path : NoAttr K a_LendRow "path"
  a_StepRow : Addr
  c_StepRow : mg "StepRow" = some (.ref a_StepRow)
  cl_StepRow : Cls K a_StepRow
  na_StepRow_name : NoAttr K a_StepRow "name"
  na_StepRow_field : NoAttr K a_StepRow "field"
  a_CallRow : Addr
  c_CallRow : mg "CallRow" = some (.ref a_CallRow)
  cl_CallRow : Cls K a_CallRow
  na_CallRow_name : NoAttr K a_CallRow "name"
  na_CallRow_helper : NoAttr K a_CallRow "helper"
  na_CallRow_given : NoAttr K a_CallRow "given"
  a_BackRow : Addr
  c_BackRow : mg "BackRow" = some (.ref a_BackRow)
  cl_BackRow : Cls K a_BackRow
  na_BackRow_atom : NoAttr K a_BackRow "atom"
  a_AskRow : Addr
  c_AskRow : mg "AskRow" = some (.ref a_AskRow)
  cl_AskRow : Cls K a_AskRow
  na_AskRow_name : NoAttr K a_AskRow "name"
  a_TellRow : Addr
  c_TellRow : mg "TellRow" = some (.ref a_TellRow)
  cl_TellRow : Cls K a_TellRow
  na_TellRow_atom : NoAttr K a_TellRow "atom"
  a_IfRow : Addr
  c_IfRow : mg "IfRow" = some (.ref a_IfRow)
  cl_IfRow : Cls K a_IfRow
  na_IfRow_atom : NoAttr K a_IfRow "atom"
  na_IfRow_rows : NoAttr K a_IfRow "rows"
  na_IfRow_others : NoAttr K a_IfRow "others"
  a_WhileRow : Addr
  c_WhileRow : mg "WhileRow" = some (.ref a_WhileRow)
  cl_WhileRow : Cls K a_WhileRow
  na_WhileRow_atom : NoAttr K a_WhileRow "atom"
  na_WhileRow_rows : NoAttr K a_WhileRow "rows"
  a_Record : Addr
  c_Record : mg "Record" = some (.ref a_Record)
  cl_Record : Cls K a_Record
  na_Record_name : NoAttr K a_Record "name"
  na_Record_fields : NoAttr K a_Record "fields"
  a_Helper : Addr
  c_Helper : mg "Helper" = some (.ref a_Helper)
  cl_Helper : Cls K a_Helper
  na_Helper_name : NoAttr K a_Helper "name"
  na_Helper_params : NoAttr K a_Helper "params"
  na_Helper_gives : NoAttr K a_Helper "gives"
  na_Helper_rows : NoAttr K a_Helper "rows"
  a_Program : Addr
  c_Program : mg "Program" = some (.ref a_Program)
  cl_Program : Cls K a_Program
  na_Program_records : NoAttr K a_Program "records"
  na_Program_helpers : NoAttr K a_Program "helpers"
  a_Row : Addr
  c_Row : mg "Row" = some (.ref a_Row)
  cl_Row : Cls K a_Row
  a_Head : Addr
  c_Head : mg "Head" = some (.ref a_Head)
  cl_Head : Cls K a_Head
  na_Head_name : NoAttr K a_Head "name"
  na_Head_params : NoAttr K a_Head "params"
  na_Head_gives : NoAttr K a_Head "gives"
  a_Block : Addr
  c_Block : mg "Block" = some (.ref a_Block)
  cl_Block : Cls K a_Block
  na_Block_word : NoAttr K a_Block "word"
  na_Block_atom : NoAttr K a_Block "atom"
  na_Block_rows : NoAttr K a_Block "rows"
  na_Block_others : NoAttr K a_Block "others"
  na_Block_beyond : NoAttr K a_Block "beyond"
  a_Reader : Addr
  c_Reader : mg "Reader" = some (.ref a_Reader)
  cl_Reader : Cls K a_Reader
  na_Reader_records : NoAttr K a_Reader "records"
  na_Reader_helpers : NoAttr K a_Reader "helpers"
  na_Reader_begun : NoAttr K a_Reader "begun"
  na_Reader_blocks : NoAttr K a_Reader "blocks"
  na_Reader_points : NoAttr K a_Reader "points"
  m_LETTERS : ∃ t, mg "LETTERS" = some (.str "abcdefghijklmnopqrstuvwxyz" t)
  m_FIGURES : ∃ t, mg "FIGURES" = some (.str "0123456789" t)
  m_SIGNS : ∃ a, mg "SIGNS" = some (.ref a) ∧ ∀ H : Hp, SqT K H a ([("+" : Str), ("-" : Str), ("*" : Str), ("<" : Str), ("=" : Str)].map V.str)
  m_KEPT : ∃ a, mg "KEPT" = some (.ref a) ∧ ∀ H : Hp, SqT K H a ([("record" : Str), ("helper" : Str), ("gives" : Str), ("end" : Str), ("if" : Str), ("else" : Str), ("fi" : Str), ("while" : Str), ("od" : Str), ("set" : Str), ("has" : Str), ("make" : Str), ("none" : Str), ("give" : Str), ("take" : Str), ("fill" : Str), ("swap" : Str), ("get" : Str), ("put" : Str), ("drop" : Str), ("look" : Str), ("hand" : Str), ("step" : Str), ("call" : Str), ("to" : Str), ("back" : Str), ("ask" : Str), ("tell" : Str), ("num" : Str)].map V.str)
  m_LONGEST : ∃ t, mg "LONGEST" = some (.int (8) t)
  m_GREATEST : ∃ t, mg "GREATEST" = some (.int (1000002) t)
  m_MOST_RECORDS : ∃ t, mg "MOST_RECORDS" = some (.int (6) t)
  m_MOST_FIELDS : ∃ t, mg "MOST_FIELDS" = some (.int (4) t)
  m_MOST_HELPERS : ∃ t, mg "MOST_HELPERS" = some (.int (6) t)
  m_MOST_PARAMS : ∃ t, mg "MOST_PARAMS" = some (.int (6) t)
  m_MOST_ROWS : ∃ t, mg "MOST_ROWS" = some (.int (60) t)
  m_MOST_DEEP : ∃ t, mg "MOST_DEEP" = some (.int (8) t)
  m_MOST_PATH : ∃ t, mg "MOST_PATH" = some (.int (4) t)
  f_NoText_init : Addr
  d_NoText_init : FuncData
  F_NoText_init : Fun K "__init__" "NoText.__init__" s_NoText_init f_NoText_init d_NoText_init
  B_NoText_init : Binds K d_NoText_init ["self", "where"] []
  f_shown : Addr
  d_shown : FuncData
  F_shown : Fun K "shown" "shown" s_shown f_shown d_shown
  B_shown : Binds K d_shown ["thing"] []
  m_shown : mg "shown" = some (.ref f_shown)
  f_Row_head : Addr
  d_Row_head : FuncData
  F_Row_head : Fun K "head" "Row.head" s_Row_head f_Row_head d_Row_head
  B_Row_head : Binds K d_Row_head ["self"] []
  f_SetRow_init : Addr
  d_SetRow_init : FuncData
  F_SetRow_init : Fun K "__init__" "SetRow.__init__" s_SetRow_init f_SetRow_init d_SetRow_init
  B_SetRow_init : Binds K d_SetRow_init ["self", "name", "one", "sign", "other"] []
  Mk_SetRow : Mk K a_SetRow f_SetRow_init
  f_SetRow_told : Addr
  d_SetRow_told : FuncData
  F_SetRow_told : Fun K "told" "SetRow.told" s_SetRow_told f_SetRow_told d_SetRow_told
  B_SetRow_told : Binds K d_SetRow_told ["self"] []
  f_MakeRow_init : Addr
  d_MakeRow_init : FuncData
  F_MakeRow_init : Fun K "__init__" "MakeRow.__init__" s_MakeRow_init f_MakeRow_init d_MakeRow_init
  B_MakeRow_init : Binds K d_MakeRow_init ["self", "name", "record", "atoms"] []
  Mk_MakeRow : Mk K a_MakeRow f_MakeRow_init
  f_MakeRow_told : Addr
  d_MakeRow_told : FuncData
  F_MakeRow_told : Fun K "told" "MakeRow.told" s_MakeRow_told f_MakeRow_told d_MakeRow_told
  B_MakeRow_told : Binds K d_MakeRow_told ["self"] []
  f_NoneRow_init : Addr
  d_NoneRow_init : FuncData
  F_NoneRow_init : Fun K "__init__" "NoneRow.__init__" s_NoneRow_init f_NoneRow_init d_NoneRow_init
  B_NoneRow_init : Binds K d_NoneRow_init ["self", "name", "record"] []
  Mk_NoneRow : Mk K a_NoneRow f_NoneRow_init
  f_NoneRow_told : Addr
  d_NoneRow_told : FuncData
  F_NoneRow_told : Fun K "told" "NoneRow.told" s_NoneRow_told f_NoneRow_told d_NoneRow_told
  B_NoneRow_told : Binds K d_NoneRow_told ["self"] []
  f_GiveRow_init : Addr
  d_GiveRow_init : FuncData
  F_GiveRow_init : Fun K "__init__" "GiveRow.__init__" s_GiveRow_init f_GiveRow_init d_GiveRow_init
  B_GiveRow_init : Binds K d_GiveRow_init ["self", "name", "other"] []
  Mk_GiveRow : Mk K a_GiveRow f_GiveRow_init
  f_GiveRow_told : Addr
  d_GiveRow_told : FuncData
  F_GiveRow_told : Fun K "told" "GiveRow.told" s_GiveRow_told f_GiveRow_told d_GiveRow_told
  B_GiveRow_told : Binds K d_GiveRow_told ["self"] []
  f_TakeRow_init : Addr
  d_TakeRow_init : FuncData
  F_TakeRow_init : Fun K "__init__" "TakeRow.__init__" s_TakeRow_init f_TakeRow_init d_TakeRow_init
  B_TakeRow_init : Binds K d_TakeRow_init ["self", "name", "path"] []
  Mk_TakeRow : Mk K a_TakeRow f_TakeRow_init
  f_TakeRow_told : Addr
  d_TakeRow_told : FuncData
  F_TakeRow_told : Fun K "told" "TakeRow.told" s_TakeRow_told f_TakeRow_told d_TakeRow_told
  B_TakeRow_told : Binds K d_TakeRow_told ["self"] []
  f_FillRow_init : Addr
  d_FillRow_init : FuncData
  F_FillRow_init : Fun K "__init__" "FillRow.__init__" s_FillRow_init f_FillRow_init d_FillRow_init
  B_FillRow_init : Binds K d_FillRow_init ["self", "path", "name"] []
  Mk_FillRow : Mk K a_FillRow f_FillRow_init
  f_FillRow_told : Addr
  d_FillRow_told : FuncData
  F_FillRow_told : Fun K "told" "FillRow.told" s_FillRow_told f_FillRow_told d_FillRow_told
  B_FillRow_told : Binds K d_FillRow_told ["self"] []
  f_SwapRow_init : Addr
  d_SwapRow_init : FuncData
  F_SwapRow_init : Fun K "__init__" "SwapRow.__init__" s_SwapRow_init f_SwapRow_init d_SwapRow_init
  B_SwapRow_init : Binds K d_SwapRow_init ["self", "name", "path"] []
  Mk_SwapRow : Mk K a_SwapRow f_SwapRow_init
  f_SwapRow_told : Addr
  d_SwapRow_told : FuncData
  F_SwapRow_told : Fun K "told" "SwapRow.told" s_SwapRow_told f_SwapRow_told d_SwapRow_told
  B_SwapRow_told : Binds K d_SwapRow_told ["self"] []
  f_GetRow_init : Addr
  d_GetRow_init : FuncData
  F_GetRow_init : Fun K "__init__" "GetRow.__init__" s_GetRow_init f_GetRow_init d_GetRow_init
  B_GetRow_init : Binds K d_GetRow_init ["self", "name", "path"] []
  Mk_GetRow : Mk K a_GetRow f_GetRow_init
  f_GetRow_told : Addr
  d_GetRow_told : FuncData
  F_GetRow_told : Fun K "told" "GetRow.told" s_GetRow_told f_GetRow_told d_GetRow_told
  B_GetRow_told : Binds K d_GetRow_told ["self"] []
  f_PutRow_init : Addr
  d_PutRow_init : FuncData
  F_PutRow_init : Fun K "__init__" "PutRow.__init__" s_PutRow_init f_PutRow_init d_PutRow_init
  B_PutRow_init : Binds K d_PutRow_init ["self", "path", "atom"] []
  Mk_PutRow : Mk K a_PutRow f_PutRow_init
  f_PutRow_told : Addr
  d_PutRow_told : FuncData
  F_PutRow_told : Fun K "told" "PutRow.told" s_PutRow_told f_PutRow_told d_PutRow_told
  B_PutRow_told : Binds K d_PutRow_told ["self"] []
  f_HasRow_init : Addr
  d_HasRow_init : FuncData
  F_HasRow_init : Fun K "__init__" "HasRow.__init__" s_HasRow_init f_HasRow_init d_HasRow_init
  B_HasRow_init : Binds K d_HasRow_init ["self", "name", "path"] []
  Mk_HasRow : Mk K a_HasRow f_HasRow_init
  f_HasRow_told : Addr
  d_HasRow_told : FuncData
  F_HasRow_told : Fun K "told" "HasRow.told" s_HasRow_told f_HasRow_told d_HasRow_told
  B_HasRow_told : Binds K d_HasRow_told ["self"] []
  f_DropRow_init : Addr
  d_DropRow_init : FuncData
  F_DropRow_init : Fun K "__init__" "DropRow.__init__" s_DropRow_init f_DropRow_init d_DropRow_init
  B_DropRow_init : Binds K d_DropRow_init ["self", "name"] []
  Mk_DropRow : Mk K a_DropRow f_DropRow_init
  f_DropRow_told : Addr
  d_DropRow_told : FuncData
  F_DropRow_told : Fun K "told" "DropRow.told" s_DropRow_told f_DropRow_told d_DropRow_told
  B_DropRow_told : Binds K d_DropRow_told ["self"] []
  f_LendRow_init : Addr
  d_LendRow_init : FuncData
  F_LendRow_init : Fun K "__init__" "LendRow.__init__" s_LendRow_init f_LendRow_init d_LendRow_init
  B_LendRow_init : Binds K d_LendRow_init ["self", "mode", "name", "path"] []
  Mk_LendRow : Mk K a_LendRow f_LendRow_init
  f_LendRow_told : Addr
  d_LendRow_told : FuncData
  F_LendRow_told : Fun K "told" "LendRow.told" s_LendRow_told f_LendRow_told d_LendRow_told
  B_LendRow_told : Binds K d_LendRow_told ["self"] []
  f_StepRow_init : Addr
  d_StepRow_init : FuncData
  F_StepRow_init : Fun K "__init__" "StepRow.__init__" s_StepRow_init f_StepRow_init d_StepRow_init
  B_StepRow_init : Binds K d_StepRow_init ["self", "name", "field"] []
  Mk_StepRow : Mk K a_StepRow f_StepRow_init
  f_StepRow_told : Addr
  d_StepRow_told : FuncData
  F_StepRow_told : Fun K "told" "StepRow.told" s_StepRow_told f_StepRow_told d_StepRow_told
  B_StepRow_told : Binds K d_StepRow_told ["self"] []
  f_CallRow_init : Addr
  d_CallRow_init : FuncData
  F_CallRow_init : Fun K "__init__" "CallRow.__init__" s_CallRow_init f_CallRow_init d_CallRow_init
  B_CallRow_init : Binds K d_CallRow_init ["self", "name", "helper", "given"] []
  Mk_CallRow : Mk K a_CallRow f_CallRow_init
  f_CallRow_told : Addr
  d_CallRow_told : FuncData
  F_CallRow_told : Fun K "told" "CallRow.told" s_CallRow_told f_CallRow_told d_CallRow_told
  B_CallRow_told : Binds K d_CallRow_told ["self"] []
  f_BackRow_init : Addr
  d_BackRow_init : FuncData
  F_BackRow_init : Fun K "__init__" "BackRow.__init__" s_BackRow_init f_BackRow_init d_BackRow_init
  B_BackRow_init : Binds K d_BackRow_init ["self", "atom"] []
  Mk_BackRow : Mk K a_BackRow f_BackRow_init
  f_BackRow_told : Addr
  d_BackRow_told : FuncData
  F_BackRow_told : Fun K "told" "BackRow.told" s_BackRow_told f_BackRow_told d_BackRow_told
  B_BackRow_told : Binds K d_BackRow_told ["self"] []
  f_AskRow_init : Addr
  d_AskRow_init : FuncData
  F_AskRow_init : Fun K "__init__" "AskRow.__init__" s_AskRow_init f_AskRow_init d_AskRow_init
  B_AskRow_init : Binds K d_AskRow_init ["self", "name"] []
  Mk_AskRow : Mk K a_AskRow f_AskRow_init
  f_AskRow_told : Addr
  d_AskRow_told : FuncData
  F_AskRow_told : Fun K "told" "AskRow.told" s_AskRow_told f_AskRow_told d_AskRow_told
  B_AskRow_told : Binds K d_AskRow_told ["self"] []
  f_TellRow_init : Addr
  d_TellRow_init : FuncData
  F_TellRow_init : Fun K "__init__" "TellRow.__init__" s_TellRow_init f_TellRow_init d_TellRow_init
  B_TellRow_init : Binds K d_TellRow_init ["self", "atom"] []
  Mk_TellRow : Mk K a_TellRow f_TellRow_init
  f_TellRow_told : Addr
  d_TellRow_told : FuncData
  F_TellRow_told : Fun K "told" "TellRow.told" s_TellRow_told f_TellRow_told d_TellRow_told
  B_TellRow_told : Binds K d_TellRow_told ["self"] []
  f_IfRow_init : Addr
  d_IfRow_init : FuncData
  F_IfRow_init : Fun K "__init__" "IfRow.__init__" s_IfRow_init f_IfRow_init d_IfRow_init
  B_IfRow_init : Binds K d_IfRow_init ["self", "atom", "rows", "others"] []
  Mk_IfRow : Mk K a_IfRow f_IfRow_init
  f_IfRow_told : Addr
  d_IfRow_told : FuncData
  F_IfRow_told : Fun K "told" "IfRow.told" s_IfRow_told f_IfRow_told d_IfRow_told
  B_IfRow_told : Binds K d_IfRow_told ["self"] []
  f_WhileRow_init : Addr
  d_WhileRow_init : FuncData
  F_WhileRow_init : Fun K "__init__" "WhileRow.__init__" s_WhileRow_init f_WhileRow_init d_WhileRow_init
  B_WhileRow_init : Binds K d_WhileRow_init ["self", "atom", "rows"] []
  Mk_WhileRow : Mk K a_WhileRow f_WhileRow_init
  f_WhileRow_told : Addr
  d_WhileRow_told : FuncData
  F_WhileRow_told : Fun K "told" "WhileRow.told" s_WhileRow_told f_WhileRow_told d_WhileRow_told
  B_WhileRow_told : Binds K d_WhileRow_told ["self"] []
  f_Record_init : Addr
  d_Record_init : FuncData
  F_Record_init : Fun K "__init__" "Record.__init__" s_Record_init f_Record_init d_Record_init
  B_Record_init : Binds K d_Record_init ["self", "name", "fields"] []
  Mk_Record : Mk K a_Record f_Record_init
  f_Record_told : Addr
  d_Record_told : FuncData
  F_Record_told : Fun K "told" "Record.told" s_Record_told f_Record_told d_Record_told
  B_Record_told : Binds K d_Record_told ["self"] []
  f_Helper_init : Addr
  d_Helper_init : FuncData
  F_Helper_init : Fun K "__init__" "Helper.__init__" s_Helper_init f_Helper_init d_Helper_init
  B_Helper_init : Binds K d_Helper_init ["self", "name", "params", "gives", "rows"] []
  Mk_Helper : Mk K a_Helper f_Helper_init
  f_Helper_told : Addr
  d_Helper_told : FuncData
  F_Helper_told : Fun K "told" "Helper.told" s_Helper_told f_Helper_told d_Helper_told
  B_Helper_told : Binds K d_Helper_told ["self"] []
  f_Program_init : Addr
  d_Program_init : FuncData
  F_Program_init : Fun K "__init__" "Program.__init__" s_Program_init f_Program_init d_Program_init
  B_Program_init : Binds K d_Program_init ["self", "records", "helpers"] []
  Mk_Program : Mk K a_Program f_Program_init
  f_Program_told : Addr
  d_Program_told : FuncData
  F_Program_told : Fun K "told" "Program.told" s_Program_told f_Program_told d_Program_told
  B_Program_told : Binds K d_Program_told ["self"] []
  f_SetRow_head : Addr
  d_SetRow_head : FuncData
  F_SetRow_head : Fun K "head" "SetRow.head" s_SetRow_head f_SetRow_head d_SetRow_head
  B_SetRow_head : Binds K d_SetRow_head ["self"] []
  f_MakeRow_head : Addr
  d_MakeRow_head : FuncData
  F_MakeRow_head : Fun K "head" "MakeRow.head" s_MakeRow_head f_MakeRow_head d_MakeRow_head
  B_MakeRow_head : Binds K d_MakeRow_head ["self"] []
  f_HasRow_head : Addr
  d_HasRow_head : FuncData
  F_HasRow_head : Fun K "head" "HasRow.head" s_HasRow_head f_HasRow_head d_HasRow_head
  B_HasRow_head : Binds K d_HasRow_head ["self"] []
  f_CallRow_head : Addr
  d_CallRow_head : FuncData
  F_CallRow_head : Fun K "head" "CallRow.head" s_CallRow_head f_CallRow_head d_CallRow_head
  B_CallRow_head : Binds K d_CallRow_head ["self"] []
  f_IfRow_head : Addr
  d_IfRow_head : FuncData
  F_IfRow_head : Fun K "head" "IfRow.head" s_IfRow_head f_IfRow_head d_IfRow_head
  B_IfRow_head : Binds K d_IfRow_head ["self"] []
  f_WhileRow_head : Addr
  d_WhileRow_head : FuncData
  F_WhileRow_head : Fun K "head" "WhileRow.head" s_WhileRow_head f_WhileRow_head d_WhileRow_head
  B_WhileRow_head : Binds K d_WhileRow_head ["self"] []
  f_all_told : Addr
  d_all_told : FuncData
  F_all_told : Fun K "all_told" "all_told" s_all_told f_all_told d_all_told
  B_all_told : Binds K d_all_told ["rows"] []
  m_all_told : mg "all_told" = some (.ref f_all_told)
  f_is_name : Addr
  d_is_name : FuncData
  F_is_name : Fun K "is_name" "is_name" s_is_name f_is_name d_is_name
  B_is_name : Binds K d_is_name ["word"] []
  m_is_name : mg "is_name" = some (.ref f_is_name)
  f_is_kind : Addr
  d_is_kind : FuncData
  F_is_kind : Fun K "is_kind" "is_kind" s_is_kind f_is_kind d_is_kind
  B_is_kind : Binds K d_is_kind ["word"] []
  m_is_kind : mg "is_kind" = some (.ref f_is_kind)
  f_number_of : Addr
  d_number_of : FuncData
  F_number_of : Fun K "number_of" "number_of" s_number_of f_number_of d_number_of
  B_number_of : Binds K d_number_of ["word"] []
  m_number_of : mg "number_of" = some (.ref f_number_of)
  f_atom_of : Addr
  d_atom_of : FuncData
  F_atom_of : Fun K "atom_of" "atom_of" s_atom_of f_atom_of d_atom_of
  B_atom_of : Binds K d_atom_of ["word"] []
  m_atom_of : mg "atom_of" = some (.ref f_atom_of)
  f_path_of : Addr
  d_path_of : FuncData
  F_path_of : Fun K "path_of" "path_of" s_path_of f_path_of d_path_of
  B_path_of : Binds K d_path_of ["word"] []
  m_path_of : mg "path_of" = some (.ref f_path_of)
  f_given_of : Addr
  d_given_of : FuncData
  F_given_of : Fun K "given_of" "given_of" s_given_of f_given_of d_given_of
  B_given_of : Binds K d_given_of ["word"] []
  m_given_of : mg "given_of" = some (.ref f_given_of)
  f_set_of : Addr
  d_set_of : FuncData
  F_set_of : Fun K "set_of" "set_of" s_set_of f_set_of d_set_of
  B_set_of : Binds K d_set_of ["words"] []
  m_set_of : mg "set_of" = some (.ref f_set_of)
  f_make_of : Addr
  d_make_of : FuncData
  F_make_of : Fun K "make_of" "make_of" s_make_of f_make_of d_make_of
  B_make_of : Binds K d_make_of ["words"] []
  m_make_of : mg "make_of" = some (.ref f_make_of)
  f_call_of : Addr
  d_call_of : FuncData
  F_call_of : Fun K "call_of" "call_of" s_call_of f_call_of d_call_of
  B_call_of : Binds K d_call_of ["words"] []
  m_call_of : mg "call_of" = some (.ref f_call_of)
  f_path_row_of : Addr
  d_path_row_of : FuncData
  F_path_row_of : Fun K "path_row_of" "path_row_of" s_path_row_of f_path_row_of d_path_row_of
  B_path_row_of : Binds K d_path_row_of ["words"] []
  m_path_row_of : mg "path_row_of" = some (.ref f_path_row_of)
  f_pair_row_of : Addr
  d_pair_row_of : FuncData
  F_pair_row_of : Fun K "pair_row_of" "pair_row_of" s_pair_row_of f_pair_row_of d_pair_row_of
  B_pair_row_of : Binds K d_pair_row_of ["words"] []
  m_pair_row_of : mg "pair_row_of" = some (.ref f_pair_row_of)
  f_into_row_of : Addr
  d_into_row_of : FuncData
  F_into_row_of : Fun K "into_row_of" "into_row_of" s_into_row_of f_into_row_of d_into_row_of
  B_into_row_of : Binds K d_into_row_of ["words"] []
  m_into_row_of : mg "into_row_of" = some (.ref f_into_row_of)
  f_single_row_of : Addr
  d_single_row_of : FuncData
  F_single_row_of : Fun K "single_row_of" "single_row_of" s_single_row_of f_single_row_of d_single_row_of
  B_single_row_of : Binds K d_single_row_of ["words"] []
  m_single_row_of : mg "single_row_of" = some (.ref f_single_row_of)
  f_row_by : Addr
  d_row_by : FuncData
  F_row_by : Fun K "row_by" "row_by" s_row_by f_row_by d_row_by
  B_row_by : Binds K d_row_by ["words"] []
  m_row_by : mg "row_by" = some (.ref f_row_by)
  f_record_by : Addr
  d_record_by : FuncData
  F_record_by : Fun K "record_by" "record_by" s_record_by f_record_by d_record_by
  B_record_by : Binds K d_record_by ["words"] []
  m_record_by : mg "record_by" = some (.ref f_record_by)
  f_param_by : Addr
  d_param_by : FuncData
  F_param_by : Fun K "param_by" "param_by" s_param_by f_param_by d_param_by
  B_param_by : Binds K d_param_by ["words"] []
  m_param_by : mg "param_by" = some (.ref f_param_by)
  f_Head_init : Addr
  d_Head_init : FuncData
  F_Head_init : Fun K "__init__" "Head.__init__" s_Head_init f_Head_init d_Head_init
  B_Head_init : Binds K d_Head_init ["self", "name", "params", "gives"] []
  Mk_Head : Mk K a_Head f_Head_init
  f_head_by : Addr
  d_head_by : FuncData
  F_head_by : Fun K "head_by" "head_by" s_head_by f_head_by d_head_by
  B_head_by : Binds K d_head_by ["words"] []
  m_head_by : mg "head_by" = some (.ref f_head_by)
  f_Block_init : Addr
  d_Block_init : FuncData
  F_Block_init : Fun K "__init__" "Block.__init__" s_Block_init f_Block_init d_Block_init
  B_Block_init : Binds K d_Block_init ["self", "word", "atom"] []
  Mk_Block : Mk K a_Block f_Block_init
  f_Block_put : Addr
  d_Block_put : FuncData
  F_Block_put : Fun K "put" "Block.put" s_Block_put f_Block_put d_Block_put
  B_Block_put : Binds K d_Block_put ["self", "row"] []
  f_Reader_init : Addr
  d_Reader_init : FuncData
  F_Reader_init : Fun K "__init__" "Reader.__init__" s_Reader_init f_Reader_init d_Reader_init
  B_Reader_init : Binds K d_Reader_init ["self"] []
  Mk_Reader : Mk K a_Reader f_Reader_init
  f_Reader_opened : Addr
  d_Reader_opened : FuncData
  F_Reader_opened : Fun K "opened" "Reader.opened" s_Reader_opened f_Reader_opened d_Reader_opened
  B_Reader_opened : Binds K d_Reader_opened ["self", "words"] []
  f_Reader_turned : Addr
  d_Reader_turned : FuncData
  F_Reader_turned : Fun K "turned" "Reader.turned" s_Reader_turned f_Reader_turned d_Reader_turned
  B_Reader_turned : Binds K d_Reader_turned ["self"] []
  f_Reader_shut : Addr
  d_Reader_shut : FuncData
  F_Reader_shut : Fun K "shut" "Reader.shut" s_Reader_shut f_Reader_shut d_Reader_shut
  B_Reader_shut : Binds K d_Reader_shut ["self", "word"] []
  f_Reader_finished : Addr
  d_Reader_finished : FuncData
  F_Reader_finished : Fun K "finished" "Reader.finished" s_Reader_finished f_Reader_finished d_Reader_finished
  B_Reader_finished : Binds K d_Reader_finished ["self"] []
  f_Reader_within : Addr
  d_Reader_within : FuncData
  F_Reader_within : Fun K "within" "Reader.within" s_Reader_within f_Reader_within d_Reader_within
  B_Reader_within : Binds K d_Reader_within ["self", "words"] []
  f_Reader_without : Addr
  d_Reader_without : FuncData
  F_Reader_without : Fun K "without" "Reader.without" s_Reader_without f_Reader_without d_Reader_without
  B_Reader_without : Binds K d_Reader_without ["self", "words"] []
  f_Reader_good : Addr
  d_Reader_good : FuncData
  F_Reader_good : Fun K "good" "Reader.good" s_Reader_good f_Reader_good d_Reader_good
  B_Reader_good : Binds K d_Reader_good ["self", "words"] []
  f_read : Addr
  d_read : FuncData
  F_read : Fun K "read" "read" s_read f_read d_read
  B_read : Binds K d_read ["text"] []
  m_read : mg "read" = some (.ref f_read)
  f_Row_inner : Addr
  d_Row_inner : FuncData
  F_Row_inner : Fun K "inner" "Row.inner" s_Row_inner f_Row_inner d_Row_inner
  B_Row_inner : Binds K d_Row_inner ["self"] []
  f_IfRow_inner : Addr
  d_IfRow_inner : FuncData
  F_IfRow_inner : Fun K "inner" "IfRow.inner" s_IfRow_inner f_IfRow_inner d_IfRow_inner
  B_IfRow_inner : Binds K d_IfRow_inner ["self"] []
  f_WhileRow_inner : Addr
  d_WhileRow_inner : FuncData
  F_WhileRow_inner : Fun K "inner" "WhileRow.inner" s_WhileRow_inner f_WhileRow_inner d_WhileRow_inner
  B_WhileRow_inner : Binds K d_WhileRow_inner ["self"] []
  f_l_draw : Addr
  d_l_draw : FuncData
  F_l_draw : Fun K "_law_draw" "_law_draw" s_l_draw f_l_draw d_l_draw
  B_l_draw : Binds K d_l_draw ["_law_script", "_law_tape", "_law_many"] []
  m_l_draw : mg "_law_draw" = some (.ref f_l_draw)
  f_l_rows_by : Addr
  d_l_rows_by : FuncData
  F_l_rows_by : Fun K "_law_rows_by" "_law_rows_by" s_l_rows_by f_l_rows_by d_l_rows_by
  B_l_rows_by : Binds K d_l_rows_by ["_law_many", "_law_cell"] []
  m_l_rows_by : mg "_law_rows_by" = some (.ref f_l_rows_by)
  f_l_last_row : Addr
  d_l_last_row : FuncData
  F_l_last_row : Fun K "_law_last_row" "_law_last_row" s_l_last_row f_l_last_row d_l_last_row
  B_l_last_row : Binds K d_l_last_row ["_law_lines"] []
  m_l_last_row : mg "_law_last_row" = some (.ref f_l_last_row)
  f_l_built : Addr
  d_l_built : FuncData
  F_l_built : Fun K "_law_built" "_law_built" s_l_built f_l_built d_l_built
  B_l_built : Binds K d_l_built ["_law_sort", "_law_more", "_law_cell"] []
  m_l_built : mg "_law_built" = some (.ref f_l_built)
  f_l_counts : Addr
  d_l_counts : FuncData
  F_l_counts : Fun K "_law_counts" "_law_counts" s_l_counts f_l_counts d_l_counts
  B_l_counts : Binds K d_l_counts ["_law_program"] []
  m_l_counts : mg "_law_counts" = some (.ref f_l_counts)
  f_law : Addr
  d_law : FuncData
  F_law : Fun K "law" "law" s_law f_law d_law
  B_law : Binds K d_law ["_law_script"] []
  m_law : mg "law" = some (.ref f_law)
  a_NoText : Addr
  c_NoText : mg "NoText" = some (.ref a_NoText)
  ox_NoText : OexC K a_NoText
  xf_NoText : XfC K a_NoText
  iC_NoText : PySem.W.findIn K (.ref a_NoText) "__init__" = some (some (.ref f_NoText_init))
  tI_NoText : PySem.W.typeIn K (.ref f_NoText_init) = some (.type "function")
  xa_NoText_where : PySem.W.findIn K (.ref a_NoText) "where" = some none
  em_NoText_NoText : PySem.W.exmOne K (.ref a_NoText) (.ref a_NoText) = some true
  ek_NoText_NoText : PySem.W.kitOne K (.ref a_NoText) (.ref a_NoText) = some true
  a_HoldError : Addr
  c_HoldError : mg "HoldError" = some (.ref a_HoldError)
  hd_HoldError : HoldC K a_HoldError
  M_SetRow_told : Meth K a_SetRow "told" f_SetRow_told
  M_SetRow_head : Meth K a_SetRow "head" f_SetRow_head
  M_SetRow_inner : Meth K a_SetRow "inner" f_Row_inner
  M_MakeRow_told : Meth K a_MakeRow "told" f_MakeRow_told
  M_MakeRow_head : Meth K a_MakeRow "head" f_MakeRow_head
  M_MakeRow_inner : Meth K a_MakeRow "inner" f_Row_inner
  M_NoneRow_told : Meth K a_NoneRow "told" f_NoneRow_told
  M_NoneRow_head : Meth K a_NoneRow "head" f_Row_head
  M_NoneRow_inner : Meth K a_NoneRow "inner" f_Row_inner
  M_GiveRow_told : Meth K a_GiveRow "told" f_GiveRow_told
  M_GiveRow_head : Meth K a_GiveRow "head" f_Row_head
  M_GiveRow_inner : Meth K a_GiveRow "inner" f_Row_inner
  M_TakeRow_told : Meth K a_TakeRow "told" f_TakeRow_told
  M_TakeRow_head : Meth K a_TakeRow "head" f_Row_head
  M_TakeRow_inner : Meth K a_TakeRow "inner" f_Row_inner
  M_FillRow_told : Meth K a_FillRow "told" f_FillRow_told
  M_FillRow_head : Meth K a_FillRow "head" f_Row_head
  M_FillRow_inner : Meth K a_FillRow "inner" f_Row_inner
  M_SwapRow_told : Meth K a_SwapRow "told" f_SwapRow_told
  M_SwapRow_head : Meth K a_SwapRow "head" f_Row_head
  M_SwapRow_inner : Meth K a_SwapRow "inner" f_Row_inner
  M_GetRow_told : Meth K a_GetRow "told" f_GetRow_told
  M_GetRow_head : Meth K a_GetRow "head" f_Row_head
  M_GetRow_inner : Meth K a_GetRow "inner" f_Row_inner
  M_PutRow_told : Meth K a_PutRow "told" f_PutRow_told
  M_PutRow_head : Meth K a_PutRow "head" f_Row_head
  M_PutRow_inner : Meth K a_PutRow "inner" f_Row_inner
  M_HasRow_told : Meth K a_HasRow "told" f_HasRow_told
  M_HasRow_head : Meth K a_HasRow "head" f_HasRow_head
  M_HasRow_inner : Meth K a_HasRow "inner" f_Row_inner
  M_DropRow_told : Meth K a_DropRow "told" f_DropRow_told
  M_DropRow_head : Meth K a_DropRow "head" f_Row_head
  M_DropRow_inner : Meth K a_DropRow "inner" f_Row_inner
  M_LendRow_told : Meth K a_LendRow "told" f_LendRow_told
  M_LendRow_head : Meth K a_LendRow "head" f_Row_head
  M_LendRow_inner : Meth K a_LendRow "inner" f_Row_inner
  M_StepRow_told : Meth K a_StepRow "told" f_StepRow_told
  M_StepRow_head : Meth K a_StepRow "head" f_Row_head
  M_StepRow_inner : Meth K a_StepRow "inner" f_Row_inner
  M_CallRow_told : Meth K a_CallRow "told" f_CallRow_told
  M_CallRow_head : Meth K a_CallRow "head" f_CallRow_head
  M_CallRow_inner : Meth K a_CallRow "inner" f_Row_inner
  M_BackRow_told : Meth K a_BackRow "told" f_BackRow_told
  M_BackRow_head : Meth K a_BackRow "head" f_Row_head
  M_BackRow_inner : Meth K a_BackRow "inner" f_Row_inner
  M_AskRow_told : Meth K a_AskRow "told" f_AskRow_told
  M_AskRow_head : Meth K a_AskRow "head" f_Row_head
  M_AskRow_inner : Meth K a_AskRow "inner" f_Row_inner
  M_TellRow_told : Meth K a_TellRow "told" f_TellRow_told
  M_TellRow_head : Meth K a_TellRow "head" f_Row_head
  M_TellRow_inner : Meth K a_TellRow "inner" f_Row_inner
  M_IfRow_told : Meth K a_IfRow "told" f_IfRow_told
  M_IfRow_head : Meth K a_IfRow "head" f_IfRow_head
  M_IfRow_inner : Meth K a_IfRow "inner" f_IfRow_inner
  M_WhileRow_told : Meth K a_WhileRow "told" f_WhileRow_told
  M_WhileRow_head : Meth K a_WhileRow "head" f_WhileRow_head
  M_WhileRow_inner : Meth K a_WhileRow "inner" f_WhileRow_inner
  M_Record_told : Meth K a_Record "told" f_Record_told
  M_Helper_told : Meth K a_Helper "told" f_Helper_told
  M_Program_told : Meth K a_Program "told" f_Program_told
  M_Block_put : Meth K a_Block "put" f_Block_put
  M_Reader_opened : Meth K a_Reader "opened" f_Reader_opened
  M_Reader_turned : Meth K a_Reader "turned" f_Reader_turned
  M_Reader_shut : Meth K a_Reader "shut" f_Reader_shut
  M_Reader_finished : Meth K a_Reader "finished" f_Reader_finished
  M_Reader_within : Meth K a_Reader "within" f_Reader_within
  M_Reader_without : Meth K a_Reader "without" f_Reader_without
  M_Reader_good : Meth K a_Reader "good" f_Reader_good
  isi : isiB K [a_SetRow, a_MakeRow, a_NoneRow, a_GiveRow, a_TakeRow, a_FillRow, a_SwapRow, a_GetRow, a_PutRow, a_HasRow, a_DropRow, a_LendRow, a_StepRow, a_CallRow, a_BackRow, a_AskRow, a_TellRow, a_IfRow, a_WhileRow] a_Row = true
def spLaw (K : PySem.W.Frag) : Sp := fun vs H Q _ => ∃ (a : Addr) (ns : List Int), vs = [.ref a] ∧ SqL K H a (ns.map V.int) ∧ ns.length ≤ 63 ∧ ∀ H', Q (.bl true) H'
/-! ### the head: facts as Bool functions of the written part, one kernel run of the top -/
def eqB {α : Type} [BEq α] (a b : Option α) : Bool := a == b
theorem eqB_ok {α : Type} [BEq α] [LawfulBEq α] {a b : Option α} (h : eqB a b = true) : a = b := eq_of_beq h
def intIs : Option (Option Value) → Int → Bool
  | some (some (.int i _)), v => i == v
  | _, _ => false
theorem intIs_ok {o : Option (Option Value)} {v : Int} (h : intIs o v = true) : ∃ t, o = some (some (.int v t)) := by
  unfold intIs at h
  split at h
  · exact ⟨_, by rw [eq_of_beq h]⟩
  · cases h
def strIs : Option (Option Value) → Str → Bool
  | some (some (.str i _)), v => decide (i = v)
  | _, _ => false
theorem strIs_ok {o : Option (Option Value)} {v : Str} (h : strIs o v = true) : ∃ t, o = some (some (.str v t)) := by
  unfold strIs at h
  split at h
  · exact ⟨_, by rw [of_decide_eq_true h]⟩
  · cases h
def strsIs : List Value → List Str → Bool
  | [], [] => true
  | .str x _ :: us, y :: ys => decide (x = y) && strsIs us ys
  | _, _ => false
theorem strsIs_ok : ∀ {us : List Value} {ys : List Str}, strsIs us ys = true → Vals (ys.map V.str) us
  | [], [], _ => .nil
  | .str x t :: us, y :: ys, h => by
    have h : (decide (x = y) && strsIs us ys) = true := h
    rw [Bool.and_eq_true] at h
    obtain rfl := of_decide_eq_true h.1
    exact .cons ⟨t, rfl⟩ (strsIs_ok h.2)
def tupIs (K : PySem.W.Frag) : Option (Option Value) → List Str → Bool
  | some (some (.ref a)), ys => match K.lookup a with
    | some o => (o.cls == .type "tuple") && (match o.data with
      | .seq its _ => strsIs its.toList ys && decide (ys.length ≤ 1000)
      | _ => false)
    | none => false
  | _, _ => false
theorem tupIs_ok {K : PySem.W.Frag} {o : Option (Option Value)} {ys : List Str} (h : tupIs K o ys = true) : ∃ a, o = some (some (.ref a)) ∧ ∀ H : Hp, SqT K H a (ys.map V.str) := by
  unfold tupIs at h
  split at h
  · rename_i a
    refine ⟨a, rfl, fun H => ?_⟩
    split at h
    · rename_i ob hob
      rw [Bool.and_eq_true] at h
      obtain ⟨h1, h2⟩ := h
      split at h2
      · rename_i its n hd
        rw [Bool.and_eq_true] at h2
        have hv := strsIs_ok h2.1
        refine .inr ⟨ob, its, n, hob, eq_of_beq h1, hd, ?_, hv⟩
        have e := hv.length
        rw [List.length_map] at e
        have e2 : its.toList.length = its.size := Array.length_toList
        have := of_decide_eq_true h2.2
        have := sizeLine_eq
        omega
      · cases h2
    · cases h
  · cases h
def hf0 : List (PySem.W.Frag → Bool) := [fun K => He.eqO (PySem.W.nsIn K mainGlobals "isinstance") (some none),
  fun K => He.eqO (PySem.W.nsIn K mainGlobals "tuple") (some none),
  fun K => He.eqO (PySem.W.nsIn K mainGlobals "str") (some none),
  fun K => He.eqO (PySem.W.nsIn K mainGlobals "len") (some none),
  fun K => He.eqO (PySem.W.nsIn K mainGlobals "all") (some none),
  fun K => He.eqO (PySem.W.nsIn K mainGlobals "int") (some none),
  fun K => He.eqO (PySem.W.nsIn K mainGlobals "range") (some none),
  fun K => He.eqO (PySem.W.nsIn K mainGlobals "enumerate") (some none),
  fun K => He.eqO (PySem.W.nsIn K mainGlobals "list") (some none),
  fun K => He.eqO (PySem.W.nsIn K mainGlobals "bool") (some none),
  fun K => He.eqO (PySem.W.nsIn K mainGlobals "SetRow") (some (some (.ref (He.ga K "SetRow")))),
  fun K => PySem.W.plainGet K (He.ga K "SetRow") Str.empty,
  fun K => PySem.W.hasDictIn K (He.ga K "SetRow"),
  fun K => PySem.W.plainOver K (He.ga K "SetRow"),
  fun K => He.eqO (PySem.W.findIn K (.ref (He.ga K "SetRow")) "__setattr__") (some (some (.builtin "object.__setattr__"))),
  fun K => PySem.W.makesIn K (He.ga K "SetRow"),
  fun K => PySem.W.keepIn K (.ref (He.ga K "SetRow")),
  fun K => He.eqO (PySem.W.findIn K (.ref (He.ga K "SetRow")) "name") (some none),
  fun K => He.eqO (PySem.W.findIn K (.ref (He.ga K "SetRow")) "one") (some none),
  fun K => He.eqO (PySem.W.findIn K (.ref (He.ga K "SetRow")) "sign") (some none),
  fun K => He.eqO (PySem.W.findIn K (.ref (He.ga K "SetRow")) "other") (some none),
  fun K => He.eqO (PySem.W.nsIn K mainGlobals "MakeRow") (some (some (.ref (He.ga K "MakeRow")))),
  fun K => PySem.W.plainGet K (He.ga K "MakeRow") Str.empty,
  fun K => PySem.W.hasDictIn K (He.ga K "MakeRow"),
  fun K => PySem.W.plainOver K (He.ga K "MakeRow")]
def hf1 : List (PySem.W.Frag → Bool) := [fun K => He.eqO (PySem.W.findIn K (.ref (He.ga K "MakeRow")) "__setattr__") (some (some (.builtin "object.__setattr__"))),
  fun K => PySem.W.makesIn K (He.ga K "MakeRow"),
  fun K => PySem.W.keepIn K (.ref (He.ga K "MakeRow")),
  fun K => He.eqO (PySem.W.findIn K (.ref (He.ga K "MakeRow")) "name") (some none),
  fun K => He.eqO (PySem.W.findIn K (.ref (He.ga K "MakeRow")) "record") (some none),
  fun K => He.eqO (PySem.W.findIn K (.ref (He.ga K "MakeRow")) "atoms") (some none),
  fun K => He.eqO (PySem.W.nsIn K mainGlobals "NoneRow") (some (some (.ref (He.ga K "NoneRow")))),
  fun K => PySem.W.plainGet K (He.ga K "NoneRow") Str.empty,
  fun K => PySem.W.hasDictIn K (He.ga K "NoneRow"),
  fun K => PySem.W.plainOver K (He.ga K "NoneRow"),
  fun K => He.eqO (PySem.W.findIn K (.ref (He.ga K "NoneRow")) "__setattr__") (some (some (.builtin "object.__setattr__"))),
  fun K => PySem.W.makesIn K (He.ga K "NoneRow"),
  fun K => PySem.W.keepIn K (.ref (He.ga K "NoneRow")),
  fun K => He.eqO (PySem.W.findIn K (.ref (He.ga K "NoneRow")) "name") (some none),
  fun K => He.eqO (PySem.W.findIn K (.ref (He.ga K "NoneRow")) "record") (some none),
  fun K => He.eqO (PySem.W.nsIn K mainGlobals "GiveRow") (some (some (.ref (He.ga K "GiveRow")))),
  fun K => PySem.W.plainGet K (He.ga K "GiveRow") Str.empty,
  fun K => PySem.W.hasDictIn K (He.ga K "GiveRow"),
  fun K => PySem.W.plainOver K (He.ga K "GiveRow"),
  fun K => He.eqO (PySem.W.findIn K (.ref (He.ga K "GiveRow")) "__setattr__") (some (some (.builtin "object.__setattr__"))),
  fun K => PySem.W.makesIn K (He.ga K "GiveRow"),
  fun K => PySem.W.keepIn K (.ref (He.ga K "GiveRow")),
  fun K => He.eqO (PySem.W.findIn K (.ref (He.ga K "GiveRow")) "name") (some none),
  fun K => He.eqO (PySem.W.findIn K (.ref (He.ga K "GiveRow")) "other") (some none),
  fun K => He.eqO (PySem.W.nsIn K mainGlobals "TakeRow") (some (some (.ref (He.ga K "TakeRow"))))]
def hf2 : List (PySem.W.Frag → Bool) := [fun K => PySem.W.plainGet K (He.ga K "TakeRow") Str.empty,
  fun K => PySem.W.hasDictIn K (He.ga K "TakeRow"),
  fun K => PySem.W.plainOver K (He.ga K "TakeRow"),
  fun K => He.eqO (PySem.W.findIn K (.ref (He.ga K "TakeRow")) "__setattr__") (some (some (.builtin "object.__setattr__"))),
  fun K => PySem.W.makesIn K (He.ga K "TakeRow"),
  fun K => PySem.W.keepIn K (.ref (He.ga K "TakeRow")),
  fun K => He.eqO (PySem.W.findIn K (.ref (He.ga K "TakeRow")) "name") (some none),
  fun K => He.eqO (PySem.W.findIn K (.ref (He.ga K "TakeRow")) "path") (some none),
  fun K => He.eqO (PySem.W.nsIn K mainGlobals "FillRow") (some (some (.ref (He.ga K "FillRow")))),
  fun K => PySem.W.plainGet K (He.ga K "FillRow") Str.empty,
  fun K => PySem.W.hasDictIn K (He.ga K "FillRow"),
  fun K => PySem.W.plainOver K (He.ga K "FillRow"),
  fun K => He.eqO (PySem.W.findIn K (.ref (He.ga K "FillRow")) "__setattr__") (some (some (.builtin "object.__setattr__"))),
  fun K => PySem.W.makesIn K (He.ga K "FillRow"),
  fun K => PySem.W.keepIn K (.ref (He.ga K "FillRow")),
  fun K => He.eqO (PySem.W.findIn K (.ref (He.ga K "FillRow")) "path") (some none),
  fun K => He.eqO (PySem.W.findIn K (.ref (He.ga K "FillRow")) "name") (some none),
  fun K => He.eqO (PySem.W.nsIn K mainGlobals "SwapRow") (some (some (.ref (He.ga K "SwapRow")))),
  fun K => PySem.W.plainGet K (He.ga K "SwapRow") Str.empty,
  fun K => PySem.W.hasDictIn K (He.ga K "SwapRow"),
  fun K => PySem.W.plainOver K (He.ga K "SwapRow"),
  fun K => He.eqO (PySem.W.findIn K (.ref (He.ga K "SwapRow")) "__setattr__") (some (some (.builtin "object.__setattr__"))),
  fun K => PySem.W.makesIn K (He.ga K "SwapRow"),
  fun K => PySem.W.keepIn K (.ref (He.ga K "SwapRow")),
  fun K => He.eqO (PySem.W.findIn K (.ref (He.ga K "SwapRow")) "name") (some none)]
def hf3 : List (PySem.W.Frag → Bool) := [fun K => He.eqO (PySem.W.findIn K (.ref (He.ga K "SwapRow")) "path") (some none),
  fun K => He.eqO (PySem.W.nsIn K mainGlobals "GetRow") (some (some (.ref (He.ga K "GetRow")))),
  fun K => PySem.W.plainGet K (He.ga K "GetRow") Str.empty,
  fun K => PySem.W.hasDictIn K (He.ga K "GetRow"),
  fun K => PySem.W.plainOver K (He.ga K "GetRow"),
  fun K => He.eqO (PySem.W.findIn K (.ref (He.ga K "GetRow")) "__setattr__") (some (some (.builtin "object.__setattr__"))),
  fun K => PySem.W.makesIn K (He.ga K "GetRow"),
  fun K => PySem.W.keepIn K (.ref (He.ga K "GetRow")),
  fun K => He.eqO (PySem.W.findIn K (.ref (He.ga K "GetRow")) "name") (some none),
  fun K => He.eqO (PySem.W.findIn K (.ref (He.ga K "GetRow")) "path") (some none),
  fun K => He.eqO (PySem.W.nsIn K mainGlobals "PutRow") (some (some (.ref (He.ga K "PutRow")))),
  fun K => PySem.W.plainGet K (He.ga K "PutRow") Str.empty,
  fun K => PySem.W.hasDictIn K (He.ga K "PutRow"),
  fun K => PySem.W.plainOver K (He.ga K "PutRow"),
  fun K => He.eqO (PySem.W.findIn K (.ref (He.ga K "PutRow")) "__setattr__") (some (some (.builtin "object.__setattr__"))),
  fun K => PySem.W.makesIn K (He.ga K "PutRow"),
  fun K => PySem.W.keepIn K (.ref (He.ga K "PutRow")),
  fun K => He.eqO (PySem.W.findIn K (.ref (He.ga K "PutRow")) "path") (some none),
  fun K => He.eqO (PySem.W.findIn K (.ref (He.ga K "PutRow")) "atom") (some none),
  fun K => He.eqO (PySem.W.nsIn K mainGlobals "HasRow") (some (some (.ref (He.ga K "HasRow")))),
  fun K => PySem.W.plainGet K (He.ga K "HasRow") Str.empty,
  fun K => PySem.W.hasDictIn K (He.ga K "HasRow"),
  fun K => PySem.W.plainOver K (He.ga K "HasRow"),
  fun K => He.eqO (PySem.W.findIn K (.ref (He.ga K "HasRow")) "__setattr__") (some (some (.builtin "object.__setattr__"))),
  fun K => PySem.W.makesIn K (He.ga K "HasRow")]
def hf4 : List (PySem.W.Frag → Bool) := [fun K => PySem.W.keepIn K (.ref (He.ga K "HasRow")),
  fun K => He.eqO (PySem.W.findIn K (.ref (He.ga K "HasRow")) "name") (some none),
  fun K => He.eqO (PySem.W.findIn K (.ref (He.ga K "HasRow")) "path") (some none),
  fun K => He.eqO (PySem.W.nsIn K mainGlobals "DropRow") (some (some (.ref (He.ga K "DropRow")))),
  fun K => PySem.W.plainGet K (He.ga K "DropRow") Str.empty,
  fun K => PySem.W.hasDictIn K (He.ga K "DropRow"),
  fun K => PySem.W.plainOver K (He.ga K "DropRow"),
  fun K => He.eqO (PySem.W.findIn K (.ref (He.ga K "DropRow")) "__setattr__") (some (some (.builtin "object.__setattr__"))),
  fun K => PySem.W.makesIn K (He.ga K "DropRow"),
  fun K => PySem.W.keepIn K (.ref (He.ga K "DropRow")),
  fun K => He.eqO (PySem.W.findIn K (.ref (He.ga K "DropRow")) "name") (some none),
  fun K => He.eqO (PySem.W.nsIn K mainGlobals "LendRow") (some (some (.ref (He.ga K "LendRow")))),
  fun K => PySem.W.plainGet K (He.ga K "LendRow") Str.empty,
  fun K => PySem.W.hasDictIn K (He.ga K "LendRow"),
  fun K => PySem.W.plainOver K (He.ga K "LendRow"),
  fun K => He.eqO (PySem.W.findIn K (.ref (He.ga K "LendRow")) "__setattr__") (some (some (.builtin "object.__setattr__"))),
  fun K => PySem.W.makesIn K (He.ga K "LendRow"),
  fun K => PySem.W.keepIn K (.ref (He.ga K "LendRow")),
  fun K => He.eqO (PySem.W.findIn K (.ref (He.ga K "LendRow")) "mode") (some none),
  fun K => He.eqO (PySem.W.findIn K (.ref (He.ga K "LendRow")) "name") (some none),
  fun K => He.eqO (PySem.W.findIn K (.ref (He.ga K "LendRow")) "path") (some none),
  fun K => He.eqO (PySem.W.nsIn K mainGlobals "StepRow") (some (some (.ref (He.ga K "StepRow")))),
  fun K => PySem.W.plainGet K (He.ga K "StepRow") Str.empty,
  fun K => PySem.W.hasDictIn K (He.ga K "StepRow"),
  fun K => PySem.W.plainOver K (He.ga K "StepRow")]
def hf5 : List (PySem.W.Frag → Bool) := [fun K => He.eqO (PySem.W.findIn K (.ref (He.ga K "StepRow")) "__setattr__") (some (some (.builtin "object.__setattr__"))),
  fun K => PySem.W.makesIn K (He.ga K "StepRow"),
  fun K => PySem.W.keepIn K (.ref (He.ga K "StepRow")),
  fun K => He.eqO (PySem.W.findIn K (.ref (He.ga K "StepRow")) "name") (some none),
  fun K => He.eqO (PySem.W.findIn K (.ref (He.ga K "StepRow")) "field") (some none),
  fun K => He.eqO (PySem.W.nsIn K mainGlobals "CallRow") (some (some (.ref (He.ga K "CallRow")))),
  fun K => PySem.W.plainGet K (He.ga K "CallRow") Str.empty,
  fun K => PySem.W.hasDictIn K (He.ga K "CallRow"),
  fun K => PySem.W.plainOver K (He.ga K "CallRow"),
  fun K => He.eqO (PySem.W.findIn K (.ref (He.ga K "CallRow")) "__setattr__") (some (some (.builtin "object.__setattr__"))),
  fun K => PySem.W.makesIn K (He.ga K "CallRow"),
  fun K => PySem.W.keepIn K (.ref (He.ga K "CallRow")),
  fun K => He.eqO (PySem.W.findIn K (.ref (He.ga K "CallRow")) "name") (some none),
  fun K => He.eqO (PySem.W.findIn K (.ref (He.ga K "CallRow")) "helper") (some none),
  fun K => He.eqO (PySem.W.findIn K (.ref (He.ga K "CallRow")) "given") (some none),
  fun K => He.eqO (PySem.W.nsIn K mainGlobals "BackRow") (some (some (.ref (He.ga K "BackRow")))),
  fun K => PySem.W.plainGet K (He.ga K "BackRow") Str.empty,
  fun K => PySem.W.hasDictIn K (He.ga K "BackRow"),
  fun K => PySem.W.plainOver K (He.ga K "BackRow"),
  fun K => He.eqO (PySem.W.findIn K (.ref (He.ga K "BackRow")) "__setattr__") (some (some (.builtin "object.__setattr__"))),
  fun K => PySem.W.makesIn K (He.ga K "BackRow"),
  fun K => PySem.W.keepIn K (.ref (He.ga K "BackRow")),
  fun K => He.eqO (PySem.W.findIn K (.ref (He.ga K "BackRow")) "atom") (some none),
  fun K => He.eqO (PySem.W.nsIn K mainGlobals "AskRow") (some (some (.ref (He.ga K "AskRow")))),
  fun K => PySem.W.plainGet K (He.ga K "AskRow") Str.empty]
def hf6 : List (PySem.W.Frag → Bool) := [fun K => PySem.W.hasDictIn K (He.ga K "AskRow"),
  fun K => PySem.W.plainOver K (He.ga K "AskRow"),
  fun K => He.eqO (PySem.W.findIn K (.ref (He.ga K "AskRow")) "__setattr__") (some (some (.builtin "object.__setattr__"))),
  fun K => PySem.W.makesIn K (He.ga K "AskRow"),
  fun K => PySem.W.keepIn K (.ref (He.ga K "AskRow")),
  fun K => He.eqO (PySem.W.findIn K (.ref (He.ga K "AskRow")) "name") (some none),
  fun K => He.eqO (PySem.W.nsIn K mainGlobals "TellRow") (some (some (.ref (He.ga K "TellRow")))),
  fun K => PySem.W.plainGet K (He.ga K "TellRow") Str.empty,
  fun K => PySem.W.hasDictIn K (He.ga K "TellRow"),
  fun K => PySem.W.plainOver K (He.ga K "TellRow"),
  fun K => He.eqO (PySem.W.findIn K (.ref (He.ga K "TellRow")) "__setattr__") (some (some (.builtin "object.__setattr__"))),
  fun K => PySem.W.makesIn K (He.ga K "TellRow"),
  fun K => PySem.W.keepIn K (.ref (He.ga K "TellRow")),
  fun K => He.eqO (PySem.W.findIn K (.ref (He.ga K "TellRow")) "atom") (some none),
  fun K => He.eqO (PySem.W.nsIn K mainGlobals "IfRow") (some (some (.ref (He.ga K "IfRow")))),
  fun K => PySem.W.plainGet K (He.ga K "IfRow") Str.empty,
  fun K => PySem.W.hasDictIn K (He.ga K "IfRow"),
  fun K => PySem.W.plainOver K (He.ga K "IfRow"),
  fun K => He.eqO (PySem.W.findIn K (.ref (He.ga K "IfRow")) "__setattr__") (some (some (.builtin "object.__setattr__"))),
  fun K => PySem.W.makesIn K (He.ga K "IfRow"),
  fun K => PySem.W.keepIn K (.ref (He.ga K "IfRow")),
  fun K => He.eqO (PySem.W.findIn K (.ref (He.ga K "IfRow")) "atom") (some none),
  fun K => He.eqO (PySem.W.findIn K (.ref (He.ga K "IfRow")) "rows") (some none),
  fun K => He.eqO (PySem.W.findIn K (.ref (He.ga K "IfRow")) "others") (some none),
  fun K => He.eqO (PySem.W.nsIn K mainGlobals "WhileRow") (some (some (.ref (He.ga K "WhileRow"))))]
def hf7 : List (PySem.W.Frag → Bool) := [fun K => PySem.W.plainGet K (He.ga K "WhileRow") Str.empty,
  fun K => PySem.W.hasDictIn K (He.ga K "WhileRow"),
  fun K => PySem.W.plainOver K (He.ga K "WhileRow"),
  fun K => He.eqO (PySem.W.findIn K (.ref (He.ga K "WhileRow")) "__setattr__") (some (some (.builtin "object.__setattr__"))),
  fun K => PySem.W.makesIn K (He.ga K "WhileRow"),
  fun K => PySem.W.keepIn K (.ref (He.ga K "WhileRow")),
  fun K => He.eqO (PySem.W.findIn K (.ref (He.ga K "WhileRow")) "atom") (some none),
  fun K => He.eqO (PySem.W.findIn K (.ref (He.ga K "WhileRow")) "rows") (some none),
  fun K => He.eqO (PySem.W.nsIn K mainGlobals "Record") (some (some (.ref (He.ga K "Record")))),
  fun K => PySem.W.plainGet K (He.ga K "Record") Str.empty,
  fun K => PySem.W.hasDictIn K (He.ga K "Record"),
  fun K => PySem.W.plainOver K (He.ga K "Record"),
  fun K => He.eqO (PySem.W.findIn K (.ref (He.ga K "Record")) "__setattr__") (some (some (.builtin "object.__setattr__"))),
  fun K => PySem.W.makesIn K (He.ga K "Record"),
  fun K => PySem.W.keepIn K (.ref (He.ga K "Record")),
  fun K => He.eqO (PySem.W.findIn K (.ref (He.ga K "Record")) "name") (some none),
  fun K => He.eqO (PySem.W.findIn K (.ref (He.ga K "Record")) "fields") (some none),
  fun K => He.eqO (PySem.W.nsIn K mainGlobals "Helper") (some (some (.ref (He.ga K "Helper")))),
  fun K => PySem.W.plainGet K (He.ga K "Helper") Str.empty,
  fun K => PySem.W.hasDictIn K (He.ga K "Helper"),
  fun K => PySem.W.plainOver K (He.ga K "Helper"),
  fun K => He.eqO (PySem.W.findIn K (.ref (He.ga K "Helper")) "__setattr__") (some (some (.builtin "object.__setattr__"))),
  fun K => PySem.W.makesIn K (He.ga K "Helper"),
  fun K => PySem.W.keepIn K (.ref (He.ga K "Helper")),
  fun K => He.eqO (PySem.W.findIn K (.ref (He.ga K "Helper")) "name") (some none)]
def hf8 : List (PySem.W.Frag → Bool) := [fun K => He.eqO (PySem.W.findIn K (.ref (He.ga K "Helper")) "params") (some none),
  fun K => He.eqO (PySem.W.findIn K (.ref (He.ga K "Helper")) "gives") (some none),
  fun K => He.eqO (PySem.W.findIn K (.ref (He.ga K "Helper")) "rows") (some none),
  fun K => He.eqO (PySem.W.nsIn K mainGlobals "Program") (some (some (.ref (He.ga K "Program")))),
  fun K => PySem.W.plainGet K (He.ga K "Program") Str.empty,
  fun K => PySem.W.hasDictIn K (He.ga K "Program"),
  fun K => PySem.W.plainOver K (He.ga K "Program"),
  fun K => He.eqO (PySem.W.findIn K (.ref (He.ga K "Program")) "__setattr__") (some (some (.builtin "object.__setattr__"))),
  fun K => PySem.W.makesIn K (He.ga K "Program"),
  fun K => PySem.W.keepIn K (.ref (He.ga K "Program")),
  fun K => He.eqO (PySem.W.findIn K (.ref (He.ga K "Program")) "records") (some none),
  fun K => He.eqO (PySem.W.findIn K (.ref (He.ga K "Program")) "helpers") (some none),
  fun K => He.eqO (PySem.W.nsIn K mainGlobals "Row") (some (some (.ref (He.ga K "Row")))),
  fun K => PySem.W.plainGet K (He.ga K "Row") Str.empty,
  fun K => PySem.W.hasDictIn K (He.ga K "Row"),
  fun K => PySem.W.plainOver K (He.ga K "Row"),
  fun K => He.eqO (PySem.W.findIn K (.ref (He.ga K "Row")) "__setattr__") (some (some (.builtin "object.__setattr__"))),
  fun K => He.eqO (PySem.W.nsIn K mainGlobals "Head") (some (some (.ref (He.ga K "Head")))),
  fun K => PySem.W.plainGet K (He.ga K "Head") Str.empty,
  fun K => PySem.W.hasDictIn K (He.ga K "Head"),
  fun K => PySem.W.plainOver K (He.ga K "Head"),
  fun K => He.eqO (PySem.W.findIn K (.ref (He.ga K "Head")) "__setattr__") (some (some (.builtin "object.__setattr__"))),
  fun K => PySem.W.makesIn K (He.ga K "Head"),
  fun K => PySem.W.keepIn K (.ref (He.ga K "Head")),
  fun K => He.eqO (PySem.W.findIn K (.ref (He.ga K "Head")) "name") (some none)]
def hf9 : List (PySem.W.Frag → Bool) := [fun K => He.eqO (PySem.W.findIn K (.ref (He.ga K "Head")) "params") (some none),
  fun K => He.eqO (PySem.W.findIn K (.ref (He.ga K "Head")) "gives") (some none),
  fun K => He.eqO (PySem.W.nsIn K mainGlobals "Block") (some (some (.ref (He.ga K "Block")))),
  fun K => PySem.W.plainGet K (He.ga K "Block") Str.empty,
  fun K => PySem.W.hasDictIn K (He.ga K "Block"),
  fun K => PySem.W.plainOver K (He.ga K "Block"),
  fun K => He.eqO (PySem.W.findIn K (.ref (He.ga K "Block")) "__setattr__") (some (some (.builtin "object.__setattr__"))),
  fun K => PySem.W.makesIn K (He.ga K "Block"),
  fun K => PySem.W.keepIn K (.ref (He.ga K "Block")),
  fun K => He.eqO (PySem.W.findIn K (.ref (He.ga K "Block")) "word") (some none),
  fun K => He.eqO (PySem.W.findIn K (.ref (He.ga K "Block")) "atom") (some none),
  fun K => He.eqO (PySem.W.findIn K (.ref (He.ga K "Block")) "rows") (some none),
  fun K => He.eqO (PySem.W.findIn K (.ref (He.ga K "Block")) "others") (some none),
  fun K => He.eqO (PySem.W.findIn K (.ref (He.ga K "Block")) "beyond") (some none),
  fun K => He.eqO (PySem.W.nsIn K mainGlobals "Reader") (some (some (.ref (He.ga K "Reader")))),
  fun K => PySem.W.plainGet K (He.ga K "Reader") Str.empty,
  fun K => PySem.W.hasDictIn K (He.ga K "Reader"),
  fun K => PySem.W.plainOver K (He.ga K "Reader"),
  fun K => He.eqO (PySem.W.findIn K (.ref (He.ga K "Reader")) "__setattr__") (some (some (.builtin "object.__setattr__"))),
  fun K => PySem.W.makesIn K (He.ga K "Reader"),
  fun K => PySem.W.keepIn K (.ref (He.ga K "Reader")),
  fun K => He.eqO (PySem.W.findIn K (.ref (He.ga K "Reader")) "records") (some none),
  fun K => He.eqO (PySem.W.findIn K (.ref (He.ga K "Reader")) "helpers") (some none),
  fun K => He.eqO (PySem.W.findIn K (.ref (He.ga K "Reader")) "begun") (some none),
  fun K => He.eqO (PySem.W.findIn K (.ref (He.ga K "Reader")) "blocks") (some none)]
def hf10 : List (PySem.W.Frag → Bool) := [fun K => He.eqO (PySem.W.findIn K (.ref (He.ga K "Reader")) "points") (some none),
  fun K => He.eqO (PySem.W.nsIn K mainGlobals "NoText") (some (some (.ref (He.ga K "NoText")))),
  fun K => oexCB K (He.ga K "NoText"),
  fun K => xfB K (He.ga K "NoText"),
  fun K => He.eqO (PySem.W.findIn K (.ref (He.ga K "NoText")) "__setattr__") (some (some (.builtin "object.__setattr__"))),
  fun K => eqB (PySem.W.subIn K (.ref (He.ga K "NoText")) (.type "BaseException")) (some true),
  fun K => eqB (PySem.W.typeIn K (.ref (He.ga K "NoText"))) (some (.type "type")),
  fun K => PySem.W.keepIn K (.ref (He.ga K "NoText")),
  fun K => eqB (PySem.W.typeIn K (.ref (He.fAd K ("NoText", some "__init__")))) (some (.type "function")),
  fun K => He.eqO (PySem.W.findIn K (.ref (He.ga K "NoText")) "where") (some none),
  fun K => eqB (PySem.W.exmOne K (.ref (He.ga K "NoText")) (.ref (He.ga K "NoText"))) (some true),
  fun K => eqB (PySem.W.kitOne K (.ref (He.ga K "NoText")) (.ref (He.ga K "NoText"))) (some true),
  fun K => He.eqO (PySem.W.nsIn K mainGlobals "HoldError") (some (some (.ref (He.ga K "HoldError")))),
  fun K => holdB K (He.ga K "HoldError"),
  fun K => strIs (PySem.W.nsIn K mainGlobals "LETTERS") "abcdefghijklmnopqrstuvwxyz",
  fun K => strIs (PySem.W.nsIn K mainGlobals "FIGURES") "0123456789",
  fun K => tupIs K (PySem.W.nsIn K mainGlobals "SIGNS") ["+", "-", "*", "<", "="],
  fun K => tupIs K (PySem.W.nsIn K mainGlobals "KEPT") ["record", "helper", "gives", "end", "if", "else", "fi", "while", "od", "set", "has", "make", "none", "give", "take", "fill", "swap", "get", "put", "drop", "look", "hand", "step", "call", "to", "back", "ask", "tell", "num"],
  fun K => intIs (PySem.W.nsIn K mainGlobals "LONGEST") (8),
  fun K => intIs (PySem.W.nsIn K mainGlobals "GREATEST") (1000002),
  fun K => intIs (PySem.W.nsIn K mainGlobals "MOST_RECORDS") (6),
  fun K => intIs (PySem.W.nsIn K mainGlobals "MOST_FIELDS") (4),
  fun K => intIs (PySem.W.nsIn K mainGlobals "MOST_HELPERS") (6),
  fun K => intIs (PySem.W.nsIn K mainGlobals "MOST_PARAMS") (6),
  fun K => intIs (PySem.W.nsIn K mainGlobals "MOST_ROWS") (60)]
def hf11 : List (PySem.W.Frag → Bool) := [fun K => intIs (PySem.W.nsIn K mainGlobals "MOST_DEEP") (8),
  fun K => intIs (PySem.W.nsIn K mainGlobals "MOST_PATH") (4),
  fun K => isiB K [(He.ga K "SetRow"), (He.ga K "MakeRow"), (He.ga K "NoneRow"), (He.ga K "GiveRow"), (He.ga K "TakeRow"), (He.ga K "FillRow"), (He.ga K "SwapRow"), (He.ga K "GetRow"), (He.ga K "PutRow"), (He.ga K "HasRow"), (He.ga K "DropRow"), (He.ga K "LendRow"), (He.ga K "StepRow"), (He.ga K "CallRow"), (He.ga K "BackRow"), (He.ga K "AskRow"), (He.ga K "TellRow"), (He.ga K "IfRow"), (He.ga K "WhileRow")] (He.ga K "Row"),
  fun K => He.eqO (PySem.W.findIn K (.ref (He.ga K "NoText")) "__init__") (some (some (.ref (He.fAd K ("NoText", some "__init__"))))),
  fun K => PySem.W.isFn K (.ref (He.fAd K ("NoText", some "__init__"))),
  fun K => PySem.W.keepIn K (.ref (He.fAd K ("NoText", some "__init__"))),
  fun K => He.eqO (PySem.W.nsIn K mainGlobals "shown") (some (some (.ref (He.fAd K ("shown", none))))),
  fun K => PySem.W.keepIn K (.ref (He.fAd K ("shown", none))),
  fun K => He.eqO (PySem.W.findIn K (.ref (He.ga K "NoneRow")) "head") (some (some (.ref (He.fAd K ("Row", some "head"))))),
  fun K => He.eqO (PySem.W.findIn K (.ref (He.ga K "GiveRow")) "head") (some (some (.ref (He.fAd K ("Row", some "head"))))),
  fun K => He.eqO (PySem.W.findIn K (.ref (He.ga K "TakeRow")) "head") (some (some (.ref (He.fAd K ("Row", some "head"))))),
  fun K => He.eqO (PySem.W.findIn K (.ref (He.ga K "FillRow")) "head") (some (some (.ref (He.fAd K ("Row", some "head"))))),
  fun K => He.eqO (PySem.W.findIn K (.ref (He.ga K "SwapRow")) "head") (some (some (.ref (He.fAd K ("Row", some "head"))))),
  fun K => He.eqO (PySem.W.findIn K (.ref (He.ga K "GetRow")) "head") (some (some (.ref (He.fAd K ("Row", some "head"))))),
  fun K => He.eqO (PySem.W.findIn K (.ref (He.ga K "PutRow")) "head") (some (some (.ref (He.fAd K ("Row", some "head"))))),
  fun K => He.eqO (PySem.W.findIn K (.ref (He.ga K "DropRow")) "head") (some (some (.ref (He.fAd K ("Row", some "head"))))),
  fun K => He.eqO (PySem.W.findIn K (.ref (He.ga K "LendRow")) "head") (some (some (.ref (He.fAd K ("Row", some "head"))))),
  fun K => He.eqO (PySem.W.findIn K (.ref (He.ga K "StepRow")) "head") (some (some (.ref (He.fAd K ("Row", some "head"))))),
  fun K => He.eqO (PySem.W.findIn K (.ref (He.ga K "BackRow")) "head") (some (some (.ref (He.fAd K ("Row", some "head"))))),
  fun K => He.eqO (PySem.W.findIn K (.ref (He.ga K "AskRow")) "head") (some (some (.ref (He.fAd K ("Row", some "head"))))),
  fun K => He.eqO (PySem.W.findIn K (.ref (He.ga K "TellRow")) "head") (some (some (.ref (He.fAd K ("Row", some "head"))))),
  fun K => PySem.W.isFn K (.ref (He.fAd K ("Row", some "head"))),
  fun K => PySem.W.keepIn K (.ref (He.fAd K ("Row", some "head"))),
  fun K => He.eqO (PySem.W.findIn K (.ref (He.ga K "SetRow")) "__init__") (some (some (.ref (He.fAd K ("SetRow", some "__init__"))))),
  fun K => PySem.W.isFn K (.ref (He.fAd K ("SetRow", some "__init__")))]
def hf12 : List (PySem.W.Frag → Bool) := [fun K => PySem.W.keepIn K (.ref (He.fAd K ("SetRow", some "__init__"))),
  fun K => He.eqO (PySem.W.findIn K (.ref (He.ga K "SetRow")) "told") (some (some (.ref (He.fAd K ("SetRow", some "told"))))),
  fun K => PySem.W.isFn K (.ref (He.fAd K ("SetRow", some "told"))),
  fun K => PySem.W.keepIn K (.ref (He.fAd K ("SetRow", some "told"))),
  fun K => He.eqO (PySem.W.findIn K (.ref (He.ga K "MakeRow")) "__init__") (some (some (.ref (He.fAd K ("MakeRow", some "__init__"))))),
  fun K => PySem.W.isFn K (.ref (He.fAd K ("MakeRow", some "__init__"))),
  fun K => PySem.W.keepIn K (.ref (He.fAd K ("MakeRow", some "__init__"))),
  fun K => He.eqO (PySem.W.findIn K (.ref (He.ga K "MakeRow")) "told") (some (some (.ref (He.fAd K ("MakeRow", some "told"))))),
  fun K => PySem.W.isFn K (.ref (He.fAd K ("MakeRow", some "told"))),
  fun K => PySem.W.keepIn K (.ref (He.fAd K ("MakeRow", some "told"))),
  fun K => He.eqO (PySem.W.findIn K (.ref (He.ga K "NoneRow")) "__init__") (some (some (.ref (He.fAd K ("NoneRow", some "__init__"))))),
  fun K => PySem.W.isFn K (.ref (He.fAd K ("NoneRow", some "__init__"))),
  fun K => PySem.W.keepIn K (.ref (He.fAd K ("NoneRow", some "__init__"))),
  fun K => He.eqO (PySem.W.findIn K (.ref (He.ga K "NoneRow")) "told") (some (some (.ref (He.fAd K ("NoneRow", some "told"))))),
  fun K => PySem.W.isFn K (.ref (He.fAd K ("NoneRow", some "told"))),
  fun K => PySem.W.keepIn K (.ref (He.fAd K ("NoneRow", some "told"))),
  fun K => He.eqO (PySem.W.findIn K (.ref (He.ga K "GiveRow")) "__init__") (some (some (.ref (He.fAd K ("GiveRow", some "__init__"))))),
  fun K => PySem.W.isFn K (.ref (He.fAd K ("GiveRow", some "__init__"))),
  fun K => PySem.W.keepIn K (.ref (He.fAd K ("GiveRow", some "__init__"))),
  fun K => He.eqO (PySem.W.findIn K (.ref (He.ga K "GiveRow")) "told") (some (some (.ref (He.fAd K ("GiveRow", some "told"))))),
  fun K => PySem.W.isFn K (.ref (He.fAd K ("GiveRow", some "told"))),
  fun K => PySem.W.keepIn K (.ref (He.fAd K ("GiveRow", some "told"))),
  fun K => He.eqO (PySem.W.findIn K (.ref (He.ga K "TakeRow")) "__init__") (some (some (.ref (He.fAd K ("TakeRow", some "__init__"))))),
  fun K => PySem.W.isFn K (.ref (He.fAd K ("TakeRow", some "__init__"))),
  fun K => PySem.W.keepIn K (.ref (He.fAd K ("TakeRow", some "__init__")))]
def hf13 : List (PySem.W.Frag → Bool) := [fun K => He.eqO (PySem.W.findIn K (.ref (He.ga K "TakeRow")) "told") (some (some (.ref (He.fAd K ("TakeRow", some "told"))))),
  fun K => PySem.W.isFn K (.ref (He.fAd K ("TakeRow", some "told"))),
  fun K => PySem.W.keepIn K (.ref (He.fAd K ("TakeRow", some "told"))),
  fun K => He.eqO (PySem.W.findIn K (.ref (He.ga K "FillRow")) "__init__") (some (some (.ref (He.fAd K ("FillRow", some "__init__"))))),
  fun K => PySem.W.isFn K (.ref (He.fAd K ("FillRow", some "__init__"))),
  fun K => PySem.W.keepIn K (.ref (He.fAd K ("FillRow", some "__init__"))),
  fun K => He.eqO (PySem.W.findIn K (.ref (He.ga K "FillRow")) "told") (some (some (.ref (He.fAd K ("FillRow", some "told"))))),
  fun K => PySem.W.isFn K (.ref (He.fAd K ("FillRow", some "told"))),
  fun K => PySem.W.keepIn K (.ref (He.fAd K ("FillRow", some "told"))),
  fun K => He.eqO (PySem.W.findIn K (.ref (He.ga K "SwapRow")) "__init__") (some (some (.ref (He.fAd K ("SwapRow", some "__init__"))))),
  fun K => PySem.W.isFn K (.ref (He.fAd K ("SwapRow", some "__init__"))),
  fun K => PySem.W.keepIn K (.ref (He.fAd K ("SwapRow", some "__init__"))),
  fun K => He.eqO (PySem.W.findIn K (.ref (He.ga K "SwapRow")) "told") (some (some (.ref (He.fAd K ("SwapRow", some "told"))))),
  fun K => PySem.W.isFn K (.ref (He.fAd K ("SwapRow", some "told"))),
  fun K => PySem.W.keepIn K (.ref (He.fAd K ("SwapRow", some "told"))),
  fun K => He.eqO (PySem.W.findIn K (.ref (He.ga K "GetRow")) "__init__") (some (some (.ref (He.fAd K ("GetRow", some "__init__"))))),
  fun K => PySem.W.isFn K (.ref (He.fAd K ("GetRow", some "__init__"))),
  fun K => PySem.W.keepIn K (.ref (He.fAd K ("GetRow", some "__init__"))),
  fun K => He.eqO (PySem.W.findIn K (.ref (He.ga K "GetRow")) "told") (some (some (.ref (He.fAd K ("GetRow", some "told"))))),
  fun K => PySem.W.isFn K (.ref (He.fAd K ("GetRow", some "told"))),
  fun K => PySem.W.keepIn K (.ref (He.fAd K ("GetRow", some "told"))),
  fun K => He.eqO (PySem.W.findIn K (.ref (He.ga K "PutRow")) "__init__") (some (some (.ref (He.fAd K ("PutRow", some "__init__"))))),
  fun K => PySem.W.isFn K (.ref (He.fAd K ("PutRow", some "__init__"))),
  fun K => PySem.W.keepIn K (.ref (He.fAd K ("PutRow", some "__init__"))),
  fun K => He.eqO (PySem.W.findIn K (.ref (He.ga K "PutRow")) "told") (some (some (.ref (He.fAd K ("PutRow", some "told")))))]
def hf14 : List (PySem.W.Frag → Bool) := [fun K => PySem.W.isFn K (.ref (He.fAd K ("PutRow", some "told"))),
  fun K => PySem.W.keepIn K (.ref (He.fAd K ("PutRow", some "told"))),
  fun K => He.eqO (PySem.W.findIn K (.ref (He.ga K "HasRow")) "__init__") (some (some (.ref (He.fAd K ("HasRow", some "__init__"))))),
  fun K => PySem.W.isFn K (.ref (He.fAd K ("HasRow", some "__init__"))),
  fun K => PySem.W.keepIn K (.ref (He.fAd K ("HasRow", some "__init__"))),
  fun K => He.eqO (PySem.W.findIn K (.ref (He.ga K "HasRow")) "told") (some (some (.ref (He.fAd K ("HasRow", some "told"))))),
  fun K => PySem.W.isFn K (.ref (He.fAd K ("HasRow", some "told"))),
  fun K => PySem.W.keepIn K (.ref (He.fAd K ("HasRow", some "told"))),
  fun K => He.eqO (PySem.W.findIn K (.ref (He.ga K "DropRow")) "__init__") (some (some (.ref (He.fAd K ("DropRow", some "__init__"))))),
  fun K => PySem.W.isFn K (.ref (He.fAd K ("DropRow", some "__init__"))),
  fun K => PySem.W.keepIn K (.ref (He.fAd K ("DropRow", some "__init__"))),
  fun K => He.eqO (PySem.W.findIn K (.ref (He.ga K "DropRow")) "told") (some (some (.ref (He.fAd K ("DropRow", some "told"))))),
  fun K => PySem.W.isFn K (.ref (He.fAd K ("DropRow", some "told"))),
  fun K => PySem.W.keepIn K (.ref (He.fAd K ("DropRow", some "told"))),
  fun K => He.eqO (PySem.W.findIn K (.ref (He.ga K "LendRow")) "__init__") (some (some (.ref (He.fAd K ("LendRow", some "__init__"))))),
  fun K => PySem.W.isFn K (.ref (He.fAd K ("LendRow", some "__init__"))),
  fun K => PySem.W.keepIn K (.ref (He.fAd K ("LendRow", some "__init__"))),
  fun K => He.eqO (PySem.W.findIn K (.ref (He.ga K "LendRow")) "told") (some (some (.ref (He.fAd K ("LendRow", some "told"))))),
  fun K => PySem.W.isFn K (.ref (He.fAd K ("LendRow", some "told"))),
  fun K => PySem.W.keepIn K (.ref (He.fAd K ("LendRow", some "told"))),
  fun K => He.eqO (PySem.W.findIn K (.ref (He.ga K "StepRow")) "__init__") (some (some (.ref (He.fAd K ("StepRow", some "__init__"))))),
  fun K => PySem.W.isFn K (.ref (He.fAd K ("StepRow", some "__init__"))),
  fun K => PySem.W.keepIn K (.ref (He.fAd K ("StepRow", some "__init__"))),
  fun K => He.eqO (PySem.W.findIn K (.ref (He.ga K "StepRow")) "told") (some (some (.ref (He.fAd K ("StepRow", some "told"))))),
  fun K => PySem.W.isFn K (.ref (He.fAd K ("StepRow", some "told")))]
def hf15 : List (PySem.W.Frag → Bool) := [fun K => PySem.W.keepIn K (.ref (He.fAd K ("StepRow", some "told"))),
  fun K => He.eqO (PySem.W.findIn K (.ref (He.ga K "CallRow")) "__init__") (some (some (.ref (He.fAd K ("CallRow", some "__init__"))))),
  fun K => PySem.W.isFn K (.ref (He.fAd K ("CallRow", some "__init__"))),
  fun K => PySem.W.keepIn K (.ref (He.fAd K ("CallRow", some "__init__"))),
  fun K => He.eqO (PySem.W.findIn K (.ref (He.ga K "CallRow")) "told") (some (some (.ref (He.fAd K ("CallRow", some "told"))))),
  fun K => PySem.W.isFn K (.ref (He.fAd K ("CallRow", some "told"))),
  fun K => PySem.W.keepIn K (.ref (He.fAd K ("CallRow", some "told"))),
  fun K => He.eqO (PySem.W.findIn K (.ref (He.ga K "BackRow")) "__init__") (some (some (.ref (He.fAd K ("BackRow", some "__init__"))))),
  fun K => PySem.W.isFn K (.ref (He.fAd K ("BackRow", some "__init__"))),
  fun K => PySem.W.keepIn K (.ref (He.fAd K ("BackRow", some "__init__"))),
  fun K => He.eqO (PySem.W.findIn K (.ref (He.ga K "BackRow")) "told") (some (some (.ref (He.fAd K ("BackRow", some "told"))))),
  fun K => PySem.W.isFn K (.ref (He.fAd K ("BackRow", some "told"))),
  fun K => PySem.W.keepIn K (.ref (He.fAd K ("BackRow", some "told"))),
  fun K => He.eqO (PySem.W.findIn K (.ref (He.ga K "AskRow")) "__init__") (some (some (.ref (He.fAd K ("AskRow", some "__init__"))))),
  fun K => PySem.W.isFn K (.ref (He.fAd K ("AskRow", some "__init__"))),
  fun K => PySem.W.keepIn K (.ref (He.fAd K ("AskRow", some "__init__"))),
  fun K => He.eqO (PySem.W.findIn K (.ref (He.ga K "AskRow")) "told") (some (some (.ref (He.fAd K ("AskRow", some "told"))))),
  fun K => PySem.W.isFn K (.ref (He.fAd K ("AskRow", some "told"))),
  fun K => PySem.W.keepIn K (.ref (He.fAd K ("AskRow", some "told"))),
  fun K => He.eqO (PySem.W.findIn K (.ref (He.ga K "TellRow")) "__init__") (some (some (.ref (He.fAd K ("TellRow", some "__init__"))))),
  fun K => PySem.W.isFn K (.ref (He.fAd K ("TellRow", some "__init__"))),
  fun K => PySem.W.keepIn K (.ref (He.fAd K ("TellRow", some "__init__"))),
  fun K => He.eqO (PySem.W.findIn K (.ref (He.ga K "TellRow")) "told") (some (some (.ref (He.fAd K ("TellRow", some "told"))))),
  fun K => PySem.W.isFn K (.ref (He.fAd K ("TellRow", some "told"))),
  fun K => PySem.W.keepIn K (.ref (He.fAd K ("TellRow", some "told")))]
def hf16 : List (PySem.W.Frag → Bool) := [fun K => He.eqO (PySem.W.findIn K (.ref (He.ga K "IfRow")) "__init__") (some (some (.ref (He.fAd K ("IfRow", some "__init__"))))),
  fun K => PySem.W.isFn K (.ref (He.fAd K ("IfRow", some "__init__"))),
  fun K => PySem.W.keepIn K (.ref (He.fAd K ("IfRow", some "__init__"))),
  fun K => He.eqO (PySem.W.findIn K (.ref (He.ga K "IfRow")) "told") (some (some (.ref (He.fAd K ("IfRow", some "told"))))),
  fun K => PySem.W.isFn K (.ref (He.fAd K ("IfRow", some "told"))),
  fun K => PySem.W.keepIn K (.ref (He.fAd K ("IfRow", some "told"))),
  fun K => He.eqO (PySem.W.findIn K (.ref (He.ga K "WhileRow")) "__init__") (some (some (.ref (He.fAd K ("WhileRow", some "__init__"))))),
  fun K => PySem.W.isFn K (.ref (He.fAd K ("WhileRow", some "__init__"))),
  fun K => PySem.W.keepIn K (.ref (He.fAd K ("WhileRow", some "__init__"))),
  fun K => He.eqO (PySem.W.findIn K (.ref (He.ga K "WhileRow")) "told") (some (some (.ref (He.fAd K ("WhileRow", some "told"))))),
  fun K => PySem.W.isFn K (.ref (He.fAd K ("WhileRow", some "told"))),
  fun K => PySem.W.keepIn K (.ref (He.fAd K ("WhileRow", some "told"))),
  fun K => He.eqO (PySem.W.findIn K (.ref (He.ga K "Record")) "__init__") (some (some (.ref (He.fAd K ("Record", some "__init__"))))),
  fun K => PySem.W.isFn K (.ref (He.fAd K ("Record", some "__init__"))),
  fun K => PySem.W.keepIn K (.ref (He.fAd K ("Record", some "__init__"))),
  fun K => He.eqO (PySem.W.findIn K (.ref (He.ga K "Record")) "told") (some (some (.ref (He.fAd K ("Record", some "told"))))),
  fun K => PySem.W.isFn K (.ref (He.fAd K ("Record", some "told"))),
  fun K => PySem.W.keepIn K (.ref (He.fAd K ("Record", some "told"))),
  fun K => He.eqO (PySem.W.findIn K (.ref (He.ga K "Helper")) "__init__") (some (some (.ref (He.fAd K ("Helper", some "__init__"))))),
  fun K => PySem.W.isFn K (.ref (He.fAd K ("Helper", some "__init__"))),
  fun K => PySem.W.keepIn K (.ref (He.fAd K ("Helper", some "__init__"))),
  fun K => He.eqO (PySem.W.findIn K (.ref (He.ga K "Helper")) "told") (some (some (.ref (He.fAd K ("Helper", some "told"))))),
  fun K => PySem.W.isFn K (.ref (He.fAd K ("Helper", some "told"))),
  fun K => PySem.W.keepIn K (.ref (He.fAd K ("Helper", some "told"))),
  fun K => He.eqO (PySem.W.findIn K (.ref (He.ga K "Program")) "__init__") (some (some (.ref (He.fAd K ("Program", some "__init__")))))]
def hf17 : List (PySem.W.Frag → Bool) := [fun K => PySem.W.isFn K (.ref (He.fAd K ("Program", some "__init__"))),
  fun K => PySem.W.keepIn K (.ref (He.fAd K ("Program", some "__init__"))),
  fun K => He.eqO (PySem.W.findIn K (.ref (He.ga K "Program")) "told") (some (some (.ref (He.fAd K ("Program", some "told"))))),
  fun K => PySem.W.isFn K (.ref (He.fAd K ("Program", some "told"))),
  fun K => PySem.W.keepIn K (.ref (He.fAd K ("Program", some "told"))),
  fun K => He.eqO (PySem.W.findIn K (.ref (He.ga K "SetRow")) "head") (some (some (.ref (He.fAd K ("SetRow", some "head"))))),
  fun K => PySem.W.isFn K (.ref (He.fAd K ("SetRow", some "head"))),
  fun K => PySem.W.keepIn K (.ref (He.fAd K ("SetRow", some "head"))),
  fun K => He.eqO (PySem.W.findIn K (.ref (He.ga K "MakeRow")) "head") (some (some (.ref (He.fAd K ("MakeRow", some "head"))))),
  fun K => PySem.W.isFn K (.ref (He.fAd K ("MakeRow", some "head"))),
  fun K => PySem.W.keepIn K (.ref (He.fAd K ("MakeRow", some "head"))),
  fun K => He.eqO (PySem.W.findIn K (.ref (He.ga K "HasRow")) "head") (some (some (.ref (He.fAd K ("HasRow", some "head"))))),
  fun K => PySem.W.isFn K (.ref (He.fAd K ("HasRow", some "head"))),
  fun K => PySem.W.keepIn K (.ref (He.fAd K ("HasRow", some "head"))),
  fun K => He.eqO (PySem.W.findIn K (.ref (He.ga K "CallRow")) "head") (some (some (.ref (He.fAd K ("CallRow", some "head"))))),
  fun K => PySem.W.isFn K (.ref (He.fAd K ("CallRow", some "head"))),
  fun K => PySem.W.keepIn K (.ref (He.fAd K ("CallRow", some "head"))),
  fun K => He.eqO (PySem.W.findIn K (.ref (He.ga K "IfRow")) "head") (some (some (.ref (He.fAd K ("IfRow", some "head"))))),
  fun K => PySem.W.isFn K (.ref (He.fAd K ("IfRow", some "head"))),
  fun K => PySem.W.keepIn K (.ref (He.fAd K ("IfRow", some "head"))),
  fun K => He.eqO (PySem.W.findIn K (.ref (He.ga K "WhileRow")) "head") (some (some (.ref (He.fAd K ("WhileRow", some "head"))))),
  fun K => PySem.W.isFn K (.ref (He.fAd K ("WhileRow", some "head"))),
  fun K => PySem.W.keepIn K (.ref (He.fAd K ("WhileRow", some "head"))),
  fun K => He.eqO (PySem.W.nsIn K mainGlobals "all_told") (some (some (.ref (He.fAd K ("all_told", none))))),
  fun K => PySem.W.keepIn K (.ref (He.fAd K ("all_told", none)))]
def hf18 : List (PySem.W.Frag → Bool) := [fun K => He.eqO (PySem.W.nsIn K mainGlobals "is_name") (some (some (.ref (He.fAd K ("is_name", none))))),
  fun K => PySem.W.keepIn K (.ref (He.fAd K ("is_name", none))),
  fun K => He.eqO (PySem.W.nsIn K mainGlobals "is_kind") (some (some (.ref (He.fAd K ("is_kind", none))))),
  fun K => PySem.W.keepIn K (.ref (He.fAd K ("is_kind", none))),
  fun K => He.eqO (PySem.W.nsIn K mainGlobals "number_of") (some (some (.ref (He.fAd K ("number_of", none))))),
  fun K => PySem.W.keepIn K (.ref (He.fAd K ("number_of", none))),
  fun K => He.eqO (PySem.W.nsIn K mainGlobals "atom_of") (some (some (.ref (He.fAd K ("atom_of", none))))),
  fun K => PySem.W.keepIn K (.ref (He.fAd K ("atom_of", none))),
  fun K => He.eqO (PySem.W.nsIn K mainGlobals "path_of") (some (some (.ref (He.fAd K ("path_of", none))))),
  fun K => PySem.W.keepIn K (.ref (He.fAd K ("path_of", none))),
  fun K => He.eqO (PySem.W.nsIn K mainGlobals "given_of") (some (some (.ref (He.fAd K ("given_of", none))))),
  fun K => PySem.W.keepIn K (.ref (He.fAd K ("given_of", none))),
  fun K => He.eqO (PySem.W.nsIn K mainGlobals "set_of") (some (some (.ref (He.fAd K ("set_of", none))))),
  fun K => PySem.W.keepIn K (.ref (He.fAd K ("set_of", none))),
  fun K => He.eqO (PySem.W.nsIn K mainGlobals "make_of") (some (some (.ref (He.fAd K ("make_of", none))))),
  fun K => PySem.W.keepIn K (.ref (He.fAd K ("make_of", none))),
  fun K => He.eqO (PySem.W.nsIn K mainGlobals "call_of") (some (some (.ref (He.fAd K ("call_of", none))))),
  fun K => PySem.W.keepIn K (.ref (He.fAd K ("call_of", none))),
  fun K => He.eqO (PySem.W.nsIn K mainGlobals "path_row_of") (some (some (.ref (He.fAd K ("path_row_of", none))))),
  fun K => PySem.W.keepIn K (.ref (He.fAd K ("path_row_of", none))),
  fun K => He.eqO (PySem.W.nsIn K mainGlobals "pair_row_of") (some (some (.ref (He.fAd K ("pair_row_of", none))))),
  fun K => PySem.W.keepIn K (.ref (He.fAd K ("pair_row_of", none))),
  fun K => He.eqO (PySem.W.nsIn K mainGlobals "into_row_of") (some (some (.ref (He.fAd K ("into_row_of", none))))),
  fun K => PySem.W.keepIn K (.ref (He.fAd K ("into_row_of", none))),
  fun K => He.eqO (PySem.W.nsIn K mainGlobals "single_row_of") (some (some (.ref (He.fAd K ("single_row_of", none)))))]
def hf19 : List (PySem.W.Frag → Bool) := [fun K => PySem.W.keepIn K (.ref (He.fAd K ("single_row_of", none))),
  fun K => He.eqO (PySem.W.nsIn K mainGlobals "row_by") (some (some (.ref (He.fAd K ("row_by", none))))),
  fun K => PySem.W.keepIn K (.ref (He.fAd K ("row_by", none))),
  fun K => He.eqO (PySem.W.nsIn K mainGlobals "record_by") (some (some (.ref (He.fAd K ("record_by", none))))),
  fun K => PySem.W.keepIn K (.ref (He.fAd K ("record_by", none))),
  fun K => He.eqO (PySem.W.nsIn K mainGlobals "param_by") (some (some (.ref (He.fAd K ("param_by", none))))),
  fun K => PySem.W.keepIn K (.ref (He.fAd K ("param_by", none))),
  fun K => He.eqO (PySem.W.findIn K (.ref (He.ga K "Head")) "__init__") (some (some (.ref (He.fAd K ("Head", some "__init__"))))),
  fun K => PySem.W.isFn K (.ref (He.fAd K ("Head", some "__init__"))),
  fun K => PySem.W.keepIn K (.ref (He.fAd K ("Head", some "__init__"))),
  fun K => He.eqO (PySem.W.nsIn K mainGlobals "head_by") (some (some (.ref (He.fAd K ("head_by", none))))),
  fun K => PySem.W.keepIn K (.ref (He.fAd K ("head_by", none))),
  fun K => He.eqO (PySem.W.findIn K (.ref (He.ga K "Block")) "__init__") (some (some (.ref (He.fAd K ("Block", some "__init__"))))),
  fun K => PySem.W.isFn K (.ref (He.fAd K ("Block", some "__init__"))),
  fun K => PySem.W.keepIn K (.ref (He.fAd K ("Block", some "__init__"))),
  fun K => He.eqO (PySem.W.findIn K (.ref (He.ga K "Block")) "put") (some (some (.ref (He.fAd K ("Block", some "put"))))),
  fun K => PySem.W.isFn K (.ref (He.fAd K ("Block", some "put"))),
  fun K => PySem.W.keepIn K (.ref (He.fAd K ("Block", some "put"))),
  fun K => He.eqO (PySem.W.findIn K (.ref (He.ga K "Reader")) "__init__") (some (some (.ref (He.fAd K ("Reader", some "__init__"))))),
  fun K => PySem.W.isFn K (.ref (He.fAd K ("Reader", some "__init__"))),
  fun K => PySem.W.keepIn K (.ref (He.fAd K ("Reader", some "__init__"))),
  fun K => He.eqO (PySem.W.findIn K (.ref (He.ga K "Reader")) "opened") (some (some (.ref (He.fAd K ("Reader", some "opened"))))),
  fun K => PySem.W.isFn K (.ref (He.fAd K ("Reader", some "opened"))),
  fun K => PySem.W.keepIn K (.ref (He.fAd K ("Reader", some "opened"))),
  fun K => He.eqO (PySem.W.findIn K (.ref (He.ga K "Reader")) "turned") (some (some (.ref (He.fAd K ("Reader", some "turned")))))]
def hf20 : List (PySem.W.Frag → Bool) := [fun K => PySem.W.isFn K (.ref (He.fAd K ("Reader", some "turned"))),
  fun K => PySem.W.keepIn K (.ref (He.fAd K ("Reader", some "turned"))),
  fun K => He.eqO (PySem.W.findIn K (.ref (He.ga K "Reader")) "shut") (some (some (.ref (He.fAd K ("Reader", some "shut"))))),
  fun K => PySem.W.isFn K (.ref (He.fAd K ("Reader", some "shut"))),
  fun K => PySem.W.keepIn K (.ref (He.fAd K ("Reader", some "shut"))),
  fun K => He.eqO (PySem.W.findIn K (.ref (He.ga K "Reader")) "finished") (some (some (.ref (He.fAd K ("Reader", some "finished"))))),
  fun K => PySem.W.isFn K (.ref (He.fAd K ("Reader", some "finished"))),
  fun K => PySem.W.keepIn K (.ref (He.fAd K ("Reader", some "finished"))),
  fun K => He.eqO (PySem.W.findIn K (.ref (He.ga K "Reader")) "within") (some (some (.ref (He.fAd K ("Reader", some "within"))))),
  fun K => PySem.W.isFn K (.ref (He.fAd K ("Reader", some "within"))),
  fun K => PySem.W.keepIn K (.ref (He.fAd K ("Reader", some "within"))),
  fun K => He.eqO (PySem.W.findIn K (.ref (He.ga K "Reader")) "without") (some (some (.ref (He.fAd K ("Reader", some "without"))))),
  fun K => PySem.W.isFn K (.ref (He.fAd K ("Reader", some "without"))),
  fun K => PySem.W.keepIn K (.ref (He.fAd K ("Reader", some "without"))),
  fun K => He.eqO (PySem.W.findIn K (.ref (He.ga K "Reader")) "good") (some (some (.ref (He.fAd K ("Reader", some "good"))))),
  fun K => PySem.W.isFn K (.ref (He.fAd K ("Reader", some "good"))),
  fun K => PySem.W.keepIn K (.ref (He.fAd K ("Reader", some "good"))),
  fun K => He.eqO (PySem.W.nsIn K mainGlobals "read") (some (some (.ref (He.fAd K ("read", none))))),
  fun K => PySem.W.keepIn K (.ref (He.fAd K ("read", none))),
  fun K => He.eqO (PySem.W.findIn K (.ref (He.ga K "SetRow")) "inner") (some (some (.ref (He.fAd K ("Row", some "inner"))))),
  fun K => He.eqO (PySem.W.findIn K (.ref (He.ga K "MakeRow")) "inner") (some (some (.ref (He.fAd K ("Row", some "inner"))))),
  fun K => He.eqO (PySem.W.findIn K (.ref (He.ga K "NoneRow")) "inner") (some (some (.ref (He.fAd K ("Row", some "inner"))))),
  fun K => He.eqO (PySem.W.findIn K (.ref (He.ga K "GiveRow")) "inner") (some (some (.ref (He.fAd K ("Row", some "inner"))))),
  fun K => He.eqO (PySem.W.findIn K (.ref (He.ga K "TakeRow")) "inner") (some (some (.ref (He.fAd K ("Row", some "inner"))))),
  fun K => He.eqO (PySem.W.findIn K (.ref (He.ga K "FillRow")) "inner") (some (some (.ref (He.fAd K ("Row", some "inner")))))]
def hf21 : List (PySem.W.Frag → Bool) := [fun K => He.eqO (PySem.W.findIn K (.ref (He.ga K "SwapRow")) "inner") (some (some (.ref (He.fAd K ("Row", some "inner"))))),
  fun K => He.eqO (PySem.W.findIn K (.ref (He.ga K "GetRow")) "inner") (some (some (.ref (He.fAd K ("Row", some "inner"))))),
  fun K => He.eqO (PySem.W.findIn K (.ref (He.ga K "PutRow")) "inner") (some (some (.ref (He.fAd K ("Row", some "inner"))))),
  fun K => He.eqO (PySem.W.findIn K (.ref (He.ga K "HasRow")) "inner") (some (some (.ref (He.fAd K ("Row", some "inner"))))),
  fun K => He.eqO (PySem.W.findIn K (.ref (He.ga K "DropRow")) "inner") (some (some (.ref (He.fAd K ("Row", some "inner"))))),
  fun K => He.eqO (PySem.W.findIn K (.ref (He.ga K "LendRow")) "inner") (some (some (.ref (He.fAd K ("Row", some "inner"))))),
  fun K => He.eqO (PySem.W.findIn K (.ref (He.ga K "StepRow")) "inner") (some (some (.ref (He.fAd K ("Row", some "inner"))))),
  fun K => He.eqO (PySem.W.findIn K (.ref (He.ga K "CallRow")) "inner") (some (some (.ref (He.fAd K ("Row", some "inner"))))),
  fun K => He.eqO (PySem.W.findIn K (.ref (He.ga K "BackRow")) "inner") (some (some (.ref (He.fAd K ("Row", some "inner"))))),
  fun K => He.eqO (PySem.W.findIn K (.ref (He.ga K "AskRow")) "inner") (some (some (.ref (He.fAd K ("Row", some "inner"))))),
  fun K => He.eqO (PySem.W.findIn K (.ref (He.ga K "TellRow")) "inner") (some (some (.ref (He.fAd K ("Row", some "inner"))))),
  fun K => PySem.W.isFn K (.ref (He.fAd K ("Row", some "inner"))),
  fun K => PySem.W.keepIn K (.ref (He.fAd K ("Row", some "inner"))),
  fun K => He.eqO (PySem.W.findIn K (.ref (He.ga K "IfRow")) "inner") (some (some (.ref (He.fAd K ("IfRow", some "inner"))))),
  fun K => PySem.W.isFn K (.ref (He.fAd K ("IfRow", some "inner"))),
  fun K => PySem.W.keepIn K (.ref (He.fAd K ("IfRow", some "inner"))),
  fun K => He.eqO (PySem.W.findIn K (.ref (He.ga K "WhileRow")) "inner") (some (some (.ref (He.fAd K ("WhileRow", some "inner"))))),
  fun K => PySem.W.isFn K (.ref (He.fAd K ("WhileRow", some "inner"))),
  fun K => PySem.W.keepIn K (.ref (He.fAd K ("WhileRow", some "inner"))),
  fun K => He.eqO (PySem.W.nsIn K mainGlobals "_law_draw") (some (some (.ref (He.fAd K ("_law_draw", none))))),
  fun K => PySem.W.keepIn K (.ref (He.fAd K ("_law_draw", none))),
  fun K => He.eqO (PySem.W.nsIn K mainGlobals "_law_rows_by") (some (some (.ref (He.fAd K ("_law_rows_by", none))))),
  fun K => PySem.W.keepIn K (.ref (He.fAd K ("_law_rows_by", none))),
  fun K => He.eqO (PySem.W.nsIn K mainGlobals "_law_last_row") (some (some (.ref (He.fAd K ("_law_last_row", none))))),
  fun K => PySem.W.keepIn K (.ref (He.fAd K ("_law_last_row", none)))]
def hf22 : List (PySem.W.Frag → Bool) := [fun K => He.eqO (PySem.W.nsIn K mainGlobals "_law_built") (some (some (.ref (He.fAd K ("_law_built", none))))),
  fun K => PySem.W.keepIn K (.ref (He.fAd K ("_law_built", none))),
  fun K => He.eqO (PySem.W.nsIn K mainGlobals "_law_counts") (some (some (.ref (He.fAd K ("_law_counts", none))))),
  fun K => PySem.W.keepIn K (.ref (He.fAd K ("_law_counts", none))),
  fun K => He.eqO (PySem.W.nsIn K mainGlobals "law") (some (some (.ref (He.fAd K ("law", none))))),
  fun K => PySem.W.keepIn K (.ref (He.fAd K ("law", none)))]
def hfs : List (PySem.W.Frag → Bool) := hf0 ++ hf1 ++ hf2 ++ hf3 ++ hf4 ++ hf5 ++ hf6 ++ hf7 ++ hf8 ++ hf9 ++ hf10 ++ hf11 ++ hf12 ++ hf13 ++ hf14 ++ hf15 ++ hf16 ++ hf17 ++ hf18 ++ hf19 ++ hf20 ++ hf21 ++ hf22
def hd_NoText_init : He.FnD := ⟨("NoText", some "__init__"), "__init__", "NoText.__init__", defArgs s_NoText_init, defBody s_NoText_init, defScope s_NoText_init⟩
def hd_shown : He.FnD := ⟨("shown", none), "shown", "shown", defArgs s_shown, defBody s_shown, defScope s_shown⟩
def hd_Row_head : He.FnD := ⟨("Row", some "head"), "head", "Row.head", defArgs s_Row_head, defBody s_Row_head, defScope s_Row_head⟩
def hd_SetRow_init : He.FnD := ⟨("SetRow", some "__init__"), "__init__", "SetRow.__init__", defArgs s_SetRow_init, defBody s_SetRow_init, defScope s_SetRow_init⟩
def hd_SetRow_told : He.FnD := ⟨("SetRow", some "told"), "told", "SetRow.told", defArgs s_SetRow_told, defBody s_SetRow_told, defScope s_SetRow_told⟩
def hd_MakeRow_init : He.FnD := ⟨("MakeRow", some "__init__"), "__init__", "MakeRow.__init__", defArgs s_MakeRow_init, defBody s_MakeRow_init, defScope s_MakeRow_init⟩
def hd_MakeRow_told : He.FnD := ⟨("MakeRow", some "told"), "told", "MakeRow.told", defArgs s_MakeRow_told, defBody s_MakeRow_told, defScope s_MakeRow_told⟩
def hd_NoneRow_init : He.FnD := ⟨("NoneRow", some "__init__"), "__init__", "NoneRow.__init__", defArgs s_NoneRow_init, defBody s_NoneRow_init, defScope s_NoneRow_init⟩
def hd_NoneRow_told : He.FnD := ⟨("NoneRow", some "told"), "told", "NoneRow.told", defArgs s_NoneRow_told, defBody s_NoneRow_told, defScope s_NoneRow_told⟩
def hd_GiveRow_init : He.FnD := ⟨("GiveRow", some "__init__"), "__init__", "GiveRow.__init__", defArgs s_GiveRow_init, defBody s_GiveRow_init, defScope s_GiveRow_init⟩
def hd_GiveRow_told : He.FnD := ⟨("GiveRow", some "told"), "told", "GiveRow.told", defArgs s_GiveRow_told, defBody s_GiveRow_told, defScope s_GiveRow_told⟩
def hd_TakeRow_init : He.FnD := ⟨("TakeRow", some "__init__"), "__init__", "TakeRow.__init__", defArgs s_TakeRow_init, defBody s_TakeRow_init, defScope s_TakeRow_init⟩
def hd_TakeRow_told : He.FnD := ⟨("TakeRow", some "told"), "told", "TakeRow.told", defArgs s_TakeRow_told, defBody s_TakeRow_told, defScope s_TakeRow_told⟩
def hd_FillRow_init : He.FnD := ⟨("FillRow", some "__init__"), "__init__", "FillRow.__init__", defArgs s_FillRow_init, defBody s_FillRow_init, defScope s_FillRow_init⟩
def hd_FillRow_told : He.FnD := ⟨("FillRow", some "told"), "told", "FillRow.told", defArgs s_FillRow_told, defBody s_FillRow_told, defScope s_FillRow_told⟩
def hd_SwapRow_init : He.FnD := ⟨("SwapRow", some "__init__"), "__init__", "SwapRow.__init__", defArgs s_SwapRow_init, defBody s_SwapRow_init, defScope s_SwapRow_init⟩
def hd_SwapRow_told : He.FnD := ⟨("SwapRow", some "told"), "told", "SwapRow.told", defArgs s_SwapRow_told, defBody s_SwapRow_told, defScope s_SwapRow_told⟩
def hd_GetRow_init : He.FnD := ⟨("GetRow", some "__init__"), "__init__", "GetRow.__init__", defArgs s_GetRow_init, defBody s_GetRow_init, defScope s_GetRow_init⟩
def hd_GetRow_told : He.FnD := ⟨("GetRow", some "told"), "told", "GetRow.told", defArgs s_GetRow_told, defBody s_GetRow_told, defScope s_GetRow_told⟩
def hd_PutRow_init : He.FnD := ⟨("PutRow", some "__init__"), "__init__", "PutRow.__init__", defArgs s_PutRow_init, defBody s_PutRow_init, defScope s_PutRow_init⟩
def hd_PutRow_told : He.FnD := ⟨("PutRow", some "told"), "told", "PutRow.told", defArgs s_PutRow_told, defBody s_PutRow_told, defScope s_PutRow_told⟩
def hd_HasRow_init : He.FnD := ⟨("HasRow", some "__init__"), "__init__", "HasRow.__init__", defArgs s_HasRow_init, defBody s_HasRow_init, defScope s_HasRow_init⟩
def hd_HasRow_told : He.FnD := ⟨("HasRow", some "told"), "told", "HasRow.told", defArgs s_HasRow_told, defBody s_HasRow_told, defScope s_HasRow_told⟩
def hd_DropRow_init : He.FnD := ⟨("DropRow", some "__init__"), "__init__", "DropRow.__init__", defArgs s_DropRow_init, defBody s_DropRow_init, defScope s_DropRow_init⟩
def hd_DropRow_told : He.FnD := ⟨("DropRow", some "told"), "told", "DropRow.told", defArgs s_DropRow_told, defBody s_DropRow_told, defScope s_DropRow_told⟩
def hd_LendRow_init : He.FnD := ⟨("LendRow", some "__init__"), "__init__", "LendRow.__init__", defArgs s_LendRow_init, defBody s_LendRow_init, defScope s_LendRow_init⟩
def hd_LendRow_told : He.FnD := ⟨("LendRow", some "told"), "told", "LendRow.told", defArgs s_LendRow_told, defBody s_LendRow_told, defScope s_LendRow_told⟩
def hd_StepRow_init : He.FnD := ⟨("StepRow", some "__init__"), "__init__", "StepRow.__init__", defArgs s_StepRow_init, defBody s_StepRow_init, defScope s_StepRow_init⟩
def hd_StepRow_told : He.FnD := ⟨("StepRow", some "told"), "told", "StepRow.told", defArgs s_StepRow_told, defBody s_StepRow_told, defScope s_StepRow_told⟩
def hd_CallRow_init : He.FnD := ⟨("CallRow", some "__init__"), "__init__", "CallRow.__init__", defArgs s_CallRow_init, defBody s_CallRow_init, defScope s_CallRow_init⟩
def hd_CallRow_told : He.FnD := ⟨("CallRow", some "told"), "told", "CallRow.told", defArgs s_CallRow_told, defBody s_CallRow_told, defScope s_CallRow_told⟩
def hd_BackRow_init : He.FnD := ⟨("BackRow", some "__init__"), "__init__", "BackRow.__init__", defArgs s_BackRow_init, defBody s_BackRow_init, defScope s_BackRow_init⟩
def hd_BackRow_told : He.FnD := ⟨("BackRow", some "told"), "told", "BackRow.told", defArgs s_BackRow_told, defBody s_BackRow_told, defScope s_BackRow_told⟩
def hd_AskRow_init : He.FnD := ⟨("AskRow", some "__init__"), "__init__", "AskRow.__init__", defArgs s_AskRow_init, defBody s_AskRow_init, defScope s_AskRow_init⟩
def hd_AskRow_told : He.FnD := ⟨("AskRow", some "told"), "told", "AskRow.told", defArgs s_AskRow_told, defBody s_AskRow_told, defScope s_AskRow_told⟩
def hd_TellRow_init : He.FnD := ⟨("TellRow", some "__init__"), "__init__", "TellRow.__init__", defArgs s_TellRow_init, defBody s_TellRow_init, defScope s_TellRow_init⟩
def hd_TellRow_told : He.FnD := ⟨("TellRow", some "told"), "told", "TellRow.told", defArgs s_TellRow_told, defBody s_TellRow_told, defScope s_TellRow_told⟩
def hd_IfRow_init : He.FnD := ⟨("IfRow", some "__init__"), "__init__", "IfRow.__init__", defArgs s_IfRow_init, defBody s_IfRow_init, defScope s_IfRow_init⟩
def hd_IfRow_told : He.FnD := ⟨("IfRow", some "told"), "told", "IfRow.told", defArgs s_IfRow_told, defBody s_IfRow_told, defScope s_IfRow_told⟩
def hd_WhileRow_init : He.FnD := ⟨("WhileRow", some "__init__"), "__init__", "WhileRow.__init__", defArgs s_WhileRow_init, defBody s_WhileRow_init, defScope s_WhileRow_init⟩
def hd_WhileRow_told : He.FnD := ⟨("WhileRow", some "told"), "told", "WhileRow.told", defArgs s_WhileRow_told, defBody s_WhileRow_told, defScope s_WhileRow_told⟩
def hd_Record_init : He.FnD := ⟨("Record", some "__init__"), "__init__", "Record.__init__", defArgs s_Record_init, defBody s_Record_init, defScope s_Record_init⟩
def hd_Record_told : He.FnD := ⟨("Record", some "told"), "told", "Record.told", defArgs s_Record_told, defBody s_Record_told, defScope s_Record_told⟩
def hd_Helper_init : He.FnD := ⟨("Helper", some "__init__"), "__init__", "Helper.__init__", defArgs s_Helper_init, defBody s_Helper_init, defScope s_Helper_init⟩
def hd_Helper_told : He.FnD := ⟨("Helper", some "told"), "told", "Helper.told", defArgs s_Helper_told, defBody s_Helper_told, defScope s_Helper_told⟩
def hd_Program_init : He.FnD := ⟨("Program", some "__init__"), "__init__", "Program.__init__", defArgs s_Program_init, defBody s_Program_init, defScope s_Program_init⟩
def hd_Program_told : He.FnD := ⟨("Program", some "told"), "told", "Program.told", defArgs s_Program_told, defBody s_Program_told, defScope s_Program_told⟩
def hd_SetRow_head : He.FnD := ⟨("SetRow", some "head"), "head", "SetRow.head", defArgs s_SetRow_head, defBody s_SetRow_head, defScope s_SetRow_head⟩
def hd_MakeRow_head : He.FnD := ⟨("MakeRow", some "head"), "head", "MakeRow.head", defArgs s_MakeRow_head, defBody s_MakeRow_head, defScope s_MakeRow_head⟩
def hd_HasRow_head : He.FnD := ⟨("HasRow", some "head"), "head", "HasRow.head", defArgs s_HasRow_head, defBody s_HasRow_head, defScope s_HasRow_head⟩
def hd_CallRow_head : He.FnD := ⟨("CallRow", some "head"), "head", "CallRow.head", defArgs s_CallRow_head, defBody s_CallRow_head, defScope s_CallRow_head⟩
def hd_IfRow_head : He.FnD := ⟨("IfRow", some "head"), "head", "IfRow.head", defArgs s_IfRow_head, defBody s_IfRow_head, defScope s_IfRow_head⟩
def hd_WhileRow_head : He.FnD := ⟨("WhileRow", some "head"), "head", "WhileRow.head", defArgs s_WhileRow_head, defBody s_WhileRow_head, defScope s_WhileRow_head⟩
def hd_all_told : He.FnD := ⟨("all_told", none), "all_told", "all_told", defArgs s_all_told, defBody s_all_told, defScope s_all_told⟩
def hd_is_name : He.FnD := ⟨("is_name", none), "is_name", "is_name", defArgs s_is_name, defBody s_is_name, defScope s_is_name⟩
def hd_is_kind : He.FnD := ⟨("is_kind", none), "is_kind", "is_kind", defArgs s_is_kind, defBody s_is_kind, defScope s_is_kind⟩
def hd_number_of : He.FnD := ⟨("number_of", none), "number_of", "number_of", defArgs s_number_of, defBody s_number_of, defScope s_number_of⟩
def hd_atom_of : He.FnD := ⟨("atom_of", none), "atom_of", "atom_of", defArgs s_atom_of, defBody s_atom_of, defScope s_atom_of⟩
def hd_path_of : He.FnD := ⟨("path_of", none), "path_of", "path_of", defArgs s_path_of, defBody s_path_of, defScope s_path_of⟩
def hd_given_of : He.FnD := ⟨("given_of", none), "given_of", "given_of", defArgs s_given_of, defBody s_given_of, defScope s_given_of⟩
def hd_set_of : He.FnD := ⟨("set_of", none), "set_of", "set_of", defArgs s_set_of, defBody s_set_of, defScope s_set_of⟩
def hd_make_of : He.FnD := ⟨("make_of", none), "make_of", "make_of", defArgs s_make_of, defBody s_make_of, defScope s_make_of⟩
def hd_call_of : He.FnD := ⟨("call_of", none), "call_of", "call_of", defArgs s_call_of, defBody s_call_of, defScope s_call_of⟩
def hd_path_row_of : He.FnD := ⟨("path_row_of", none), "path_row_of", "path_row_of", defArgs s_path_row_of, defBody s_path_row_of, defScope s_path_row_of⟩
def hd_pair_row_of : He.FnD := ⟨("pair_row_of", none), "pair_row_of", "pair_row_of", defArgs s_pair_row_of, defBody s_pair_row_of, defScope s_pair_row_of⟩
def hd_into_row_of : He.FnD := ⟨("into_row_of", none), "into_row_of", "into_row_of", defArgs s_into_row_of, defBody s_into_row_of, defScope s_into_row_of⟩
def hd_single_row_of : He.FnD := ⟨("single_row_of", none), "single_row_of", "single_row_of", defArgs s_single_row_of, defBody s_single_row_of, defScope s_single_row_of⟩
def hd_row_by : He.FnD := ⟨("row_by", none), "row_by", "row_by", defArgs s_row_by, defBody s_row_by, defScope s_row_by⟩
def hd_record_by : He.FnD := ⟨("record_by", none), "record_by", "record_by", defArgs s_record_by, defBody s_record_by, defScope s_record_by⟩
def hd_param_by : He.FnD := ⟨("param_by", none), "param_by", "param_by", defArgs s_param_by, defBody s_param_by, defScope s_param_by⟩
def hd_Head_init : He.FnD := ⟨("Head", some "__init__"), "__init__", "Head.__init__", defArgs s_Head_init, defBody s_Head_init, defScope s_Head_init⟩
def hd_head_by : He.FnD := ⟨("head_by", none), "head_by", "head_by", defArgs s_head_by, defBody s_head_by, defScope s_head_by⟩
def hd_Block_init : He.FnD := ⟨("Block", some "__init__"), "__init__", "Block.__init__", defArgs s_Block_init, defBody s_Block_init, defScope s_Block_init⟩
def hd_Block_put : He.FnD := ⟨("Block", some "put"), "put", "Block.put", defArgs s_Block_put, defBody s_Block_put, defScope s_Block_put⟩
def hd_Reader_init : He.FnD := ⟨("Reader", some "__init__"), "__init__", "Reader.__init__", defArgs s_Reader_init, defBody s_Reader_init, defScope s_Reader_init⟩
def hd_Reader_opened : He.FnD := ⟨("Reader", some "opened"), "opened", "Reader.opened", defArgs s_Reader_opened, defBody s_Reader_opened, defScope s_Reader_opened⟩
def hd_Reader_turned : He.FnD := ⟨("Reader", some "turned"), "turned", "Reader.turned", defArgs s_Reader_turned, defBody s_Reader_turned, defScope s_Reader_turned⟩
def hd_Reader_shut : He.FnD := ⟨("Reader", some "shut"), "shut", "Reader.shut", defArgs s_Reader_shut, defBody s_Reader_shut, defScope s_Reader_shut⟩
def hd_Reader_finished : He.FnD := ⟨("Reader", some "finished"), "finished", "Reader.finished", defArgs s_Reader_finished, defBody s_Reader_finished, defScope s_Reader_finished⟩
def hd_Reader_within : He.FnD := ⟨("Reader", some "within"), "within", "Reader.within", defArgs s_Reader_within, defBody s_Reader_within, defScope s_Reader_within⟩
def hd_Reader_without : He.FnD := ⟨("Reader", some "without"), "without", "Reader.without", defArgs s_Reader_without, defBody s_Reader_without, defScope s_Reader_without⟩
def hd_Reader_good : He.FnD := ⟨("Reader", some "good"), "good", "Reader.good", defArgs s_Reader_good, defBody s_Reader_good, defScope s_Reader_good⟩
def hd_read : He.FnD := ⟨("read", none), "read", "read", defArgs s_read, defBody s_read, defScope s_read⟩
def hd_Row_inner : He.FnD := ⟨("Row", some "inner"), "inner", "Row.inner", defArgs s_Row_inner, defBody s_Row_inner, defScope s_Row_inner⟩
def hd_IfRow_inner : He.FnD := ⟨("IfRow", some "inner"), "inner", "IfRow.inner", defArgs s_IfRow_inner, defBody s_IfRow_inner, defScope s_IfRow_inner⟩
def hd_WhileRow_inner : He.FnD := ⟨("WhileRow", some "inner"), "inner", "WhileRow.inner", defArgs s_WhileRow_inner, defBody s_WhileRow_inner, defScope s_WhileRow_inner⟩
def hd_l_draw : He.FnD := ⟨("_law_draw", none), "_law_draw", "_law_draw", defArgs s_l_draw, defBody s_l_draw, defScope s_l_draw⟩
def hd_l_rows_by : He.FnD := ⟨("_law_rows_by", none), "_law_rows_by", "_law_rows_by", defArgs s_l_rows_by, defBody s_l_rows_by, defScope s_l_rows_by⟩
def hd_l_last_row : He.FnD := ⟨("_law_last_row", none), "_law_last_row", "_law_last_row", defArgs s_l_last_row, defBody s_l_last_row, defScope s_l_last_row⟩
def hd_l_built : He.FnD := ⟨("_law_built", none), "_law_built", "_law_built", defArgs s_l_built, defBody s_l_built, defScope s_l_built⟩
def hd_l_counts : He.FnD := ⟨("_law_counts", none), "_law_counts", "_law_counts", defArgs s_l_counts, defBody s_l_counts, defScope s_l_counts⟩
def hd_law : He.FnD := ⟨("law", none), "law", "law", defArgs s_law, defBody s_law, defScope s_law⟩
def hn0 : List He.FnD := [hd_NoText_init, hd_shown, hd_Row_head, hd_SetRow_init, hd_SetRow_told, hd_MakeRow_init, hd_MakeRow_told, hd_NoneRow_init, hd_NoneRow_told, hd_GiveRow_init, hd_GiveRow_told, hd_TakeRow_init, hd_TakeRow_told, hd_FillRow_init, hd_FillRow_told, hd_SwapRow_init, hd_SwapRow_told, hd_GetRow_init, hd_GetRow_told, hd_PutRow_init, hd_PutRow_told, hd_HasRow_init, hd_HasRow_told, hd_DropRow_init, hd_DropRow_told]
def hn1 : List He.FnD := [hd_LendRow_init, hd_LendRow_told, hd_StepRow_init, hd_StepRow_told, hd_CallRow_init, hd_CallRow_told, hd_BackRow_init, hd_BackRow_told, hd_AskRow_init, hd_AskRow_told, hd_TellRow_init, hd_TellRow_told, hd_IfRow_init, hd_IfRow_told, hd_WhileRow_init, hd_WhileRow_told, hd_Record_init, hd_Record_told, hd_Helper_init, hd_Helper_told, hd_Program_init, hd_Program_told, hd_SetRow_head, hd_MakeRow_head, hd_HasRow_head]
def hn2 : List He.FnD := [hd_CallRow_head, hd_IfRow_head, hd_WhileRow_head, hd_all_told, hd_is_name, hd_is_kind, hd_number_of, hd_atom_of, hd_path_of, hd_given_of, hd_set_of, hd_make_of, hd_call_of, hd_path_row_of, hd_pair_row_of, hd_into_row_of, hd_single_row_of, hd_row_by, hd_record_by, hd_param_by, hd_Head_init, hd_head_by, hd_Block_init, hd_Block_put, hd_Reader_init]
def hn3 : List He.FnD := [hd_Reader_opened, hd_Reader_turned, hd_Reader_shut, hd_Reader_finished, hd_Reader_within, hd_Reader_without, hd_Reader_good, hd_read, hd_Row_inner, hd_IfRow_inner, hd_WhileRow_inner, hd_l_draw, hd_l_rows_by, hd_l_last_row, hd_l_built, hd_l_counts, hd_law]
def hfn : List He.FnD := hn0 ++ hn1 ++ hn2 ++ hn3
abbrev Al : Type := Bool × List He.FnV
def obsK (K : PySem.W.Frag) : Al := ((hfs.all fun f => f K) && hfn.all fun d => (He.Fa.code d.at_ d.qual).ok K, hfn.map fun d => He.fnObs K d.at_)
def valK : Al := (true, hfn.map He.FnD.val)
def SaysK (K : PySem.W.Frag) : Prop := obsK K = valK
/-- the objects that an object names, but for itself -/
def refsN (a : Addr) (o : Obj) : List Addr := match o.data with
  | .dict es _ => es.toList.flatMap fun e => He.refV e.val
  | .func fd => He.refV fd.code ++ He.refV fd.defaults
  | .cls cd => cd.ns :: (cd.mro.flatMap He.refV).filter fun b => !Nat.beq a b
  | _ => []
/-- what they reach in n steps, step by step; nothing is looked for twice -/
def goesN (g : Addr → Option Obj) : Nat → List Addr → List Addr
  | 0, as => as
  | n + 1, as => as ++ goesN g n (as.flatMap fun a => match g a with
    | some o => refsN a o
    | none => [])
def obsH (g : Addr → Option Obj) : Al := obsK (He.frG g (goesN g 4 [mainGlobals] ++ [PySem.cStatics]))
def hk : PySem.W.Hook where
  α := Al
  obs := fun s => obsH s.heap.get?
  val := fun _ => valK
  says := fun _ h => ∃ K : PySem.W.Frag, K.In h ∧ SaysK K
  of := fun _ _ e => ⟨_, He.frG_in, e⟩
  keeps := fun _ _ _ ⟨K, hK, c⟩ k => ⟨K, PySem.W.Frag.In.keeps hK k, c⟩
theorem obsH_eq {g : Addr → Option Obj} {s : Shared} (h : ∀ a, g a = s.heap.get? a) : obsH g = hk.obs s := by
  have e : g = s.heap.get? := funext h
  rw [e] <;> rfl
def ob (s : PySem.W.SharedT) : Al := obsH (HandSHeadRun.getT s)
theorem ob_eq (s : PySem.W.SharedT) : ob s = hk.obs s.abs := obsH_eq (HandSHeadRun.getT_eq s)
theorem allApp {α : Type} {f : α → Bool} {l m : List α} (h : (l ++ m).all f = true) : l.all f = true ∧ m.all f = true := by
  rw [List.all_append] at h
  exact Bool.and_eq_true_iff.mp h
theorem saysF {K : PySem.W.Frag} (c : SaysK K) : hfs.all (fun f => f K) = true :=
  (He.ba (show ((hfs.all fun f => f K) && hfn.all fun d => (He.Fa.code d.at_ d.qual).ok K) = true from congrArg (fun z : Al => z.1) c)).1
theorem saysD {K : PySem.W.Frag} (c : SaysK K) {d : He.FnD} (hd : d ∈ hfn) :
    ∃ oc od osl kV doc pm an cdv ct, K.lookup (He.fAd K d.at_) = some ⟨oc, od, .func (PySem.W.fnOf d.name d.qual d.params d.body d.scope .none kV doc pm an cdv ct), osl⟩ ∧ PySem.W.codeIn K cdv d.qual = true := by
  have c2 := (He.ba (show ((hfs.all fun f => f K) && hfn.all fun d => (He.Fa.code d.at_ d.qual).ok K) = true from congrArg (fun z : Al => z.1) c)).2
  have e : hfn.map (fun d => He.fnObs K d.at_) = hfn.map He.FnD.val := congrArg (fun z : Al => z.2) c
  obtain ⟨i, hi⟩ := List.mem_iff_getElem?.mp hd
  have e2 : (hfn.map fun d => He.fnObs K d.at_)[i]? = (hfn.map He.FnD.val)[i]? := by rw [e]
  rw [List.getElem?_map, List.getElem?_map, hi] at e2
  exact He.fn_ok (Option.some.inj e2) (List.all_eq_true.mp c2 d hd)
theorem hfat0 {K : PySem.W.Frag} (c : SaysK K) : hf0.all (fun f => f K) = true := by
  have z := saysF c
  unfold hfs at z
  have z := (allApp z).1
  have z := (allApp z).1
  have z := (allApp z).1
  have z := (allApp z).1
  have z := (allApp z).1
  have z := (allApp z).1
  have z := (allApp z).1
  have z := (allApp z).1
  have z := (allApp z).1
  have z := (allApp z).1
  have z := (allApp z).1
  have z := (allApp z).1
  have z := (allApp z).1
  have z := (allApp z).1
  have z := (allApp z).1
  have z := (allApp z).1
  have z := (allApp z).1
  have z := (allApp z).1
  have z := (allApp z).1
  have z := (allApp z).1
  have z := (allApp z).1
  have z := (allApp z).1
  exact z
theorem hfact0 {K : PySem.W.Frag} (c : SaysK K) (i : Nat) {f : PySem.W.Frag → Bool} (h : hf0[i]? = some f := by rfl) : f K = true := List.all_eq_true.mp (hfat0 c) f (List.mem_of_getElem? h)
theorem hfat1 {K : PySem.W.Frag} (c : SaysK K) : hf1.all (fun f => f K) = true := by
  have z := saysF c
  unfold hfs at z
  have z := (allApp z).1
  have z := (allApp z).1
  have z := (allApp z).1
  have z := (allApp z).1
  have z := (allApp z).1
  have z := (allApp z).1
  have z := (allApp z).1
  have z := (allApp z).1
  have z := (allApp z).1
  have z := (allApp z).1
  have z := (allApp z).1
  have z := (allApp z).1
  have z := (allApp z).1
  have z := (allApp z).1
  have z := (allApp z).1
  have z := (allApp z).1
  have z := (allApp z).1
  have z := (allApp z).1
  have z := (allApp z).1
  have z := (allApp z).1
  have z := (allApp z).1
  exact (allApp z).2
theorem hfact1 {K : PySem.W.Frag} (c : SaysK K) (i : Nat) {f : PySem.W.Frag → Bool} (h : hf1[i]? = some f := by rfl) : f K = true := List.all_eq_true.mp (hfat1 c) f (List.mem_of_getElem? h)
theorem hfat2 {K : PySem.W.Frag} (c : SaysK K) : hf2.all (fun f => f K) = true := by
  have z := saysF c
  unfold hfs at z
  have z := (allApp z).1
  have z := (allApp z).1
  have z := (allApp z).1
  have z := (allApp z).1
  have z := (allApp z).1
  have z := (allApp z).1
  have z := (allApp z).1
  have z := (allApp z).1
  have z := (allApp z).1
  have z := (allApp z).1
  have z := (allApp z).1
  have z := (allApp z).1
  have z := (allApp z).1
  have z := (allApp z).1
  have z := (allApp z).1
  have z := (allApp z).1
  have z := (allApp z).1
  have z := (allApp z).1
  have z := (allApp z).1
  have z := (allApp z).1
  exact (allApp z).2
theorem hfact2 {K : PySem.W.Frag} (c : SaysK K) (i : Nat) {f : PySem.W.Frag → Bool} (h : hf2[i]? = some f := by rfl) : f K = true := List.all_eq_true.mp (hfat2 c) f (List.mem_of_getElem? h)
theorem hfat3 {K : PySem.W.Frag} (c : SaysK K) : hf3.all (fun f => f K) = true := by
  have z := saysF c
  unfold hfs at z
  have z := (allApp z).1
  have z := (allApp z).1
  have z := (allApp z).1
  have z := (allApp z).1
  have z := (allApp z).1
  have z := (allApp z).1
  have z := (allApp z).1
  have z := (allApp z).1
  have z := (allApp z).1
  have z := (allApp z).1
  have z := (allApp z).1
  have z := (allApp z).1
  have z := (allApp z).1
  have z := (allApp z).1
  have z := (allApp z).1
  have z := (allApp z).1
  have z := (allApp z).1
  have z := (allApp z).1
  have z := (allApp z).1
  exact (allApp z).2
theorem hfact3 {K : PySem.W.Frag} (c : SaysK K) (i : Nat) {f : PySem.W.Frag → Bool} (h : hf3[i]? = some f := by rfl) : f K = true := List.all_eq_true.mp (hfat3 c) f (List.mem_of_getElem? h)
theorem hfat4 {K : PySem.W.Frag} (c : SaysK K) : hf4.all (fun f => f K) = true := by
  have z := saysF c
  unfold hfs at z
  have z := (allApp z).1
  have z := (allApp z).1
  have z := (allApp z).1
  have z := (allApp z).1
  have z := (allApp z).1
  have z := (allApp z).1
  have z := (allApp z).1
  have z := (allApp z).1
  have z := (allApp z).1
  have z := (allApp z).1
  have z := (allApp z).1
  have z := (allApp z).1
  have z := (allApp z).1
  have z := (allApp z).1
  have z := (allApp z).1
  have z := (allApp z).1
  have z := (allApp z).1
  have z := (allApp z).1
  exact (allApp z).2
theorem hfact4 {K : PySem.W.Frag} (c : SaysK K) (i : Nat) {f : PySem.W.Frag → Bool} (h : hf4[i]? = some f := by rfl) : f K = true := List.all_eq_true.mp (hfat4 c) f (List.mem_of_getElem? h)
theorem hfat5 {K : PySem.W.Frag} (c : SaysK K) : hf5.all (fun f => f K) = true := by
  have z := saysF c
  unfold hfs at z
  have z := (allApp z).1
  have z := (allApp z).1
  have z := (allApp z).1
  have z := (allApp z).1
  have z := (allApp z).1
  have z := (allApp z).1
  have z := (allApp z).1
  have z := (allApp z).1
  have z := (allApp z).1
  have z := (allApp z).1
  have z := (allApp z).1
  have z := (allApp z).1
  have z := (allApp z).1
  have z := (allApp z).1
  have z := (allApp z).1
  have z := (allApp z).1
  have z := (allApp z).1
  exact (allApp z).2
theorem hfact5 {K : PySem.W.Frag} (c : SaysK K) (i : Nat) {f : PySem.W.Frag → Bool} (h : hf5[i]? = some f := by rfl) : f K = true := List.all_eq_true.mp (hfat5 c) f (List.mem_of_getElem? h)
theorem hfat6 {K : PySem.W.Frag} (c : SaysK K) : hf6.all (fun f => f K) = true := by
  have z := saysF c
  unfold hfs at z
  have z := (allApp z).1
  have z := (allApp z).1
  have z := (allApp z).1
  have z := (allApp z).1
  have z := (allApp z).1
  have z := (allApp z).1
  have z := (allApp z).1
  have z := (allApp z).1
  have z := (allApp z).1
  have z := (allApp z).1
  have z := (allApp z).1
  have z := (allApp z).1
  have z := (allApp z).1
  have z := (allApp z).1
  have z := (allApp z).1
  have z := (allApp z).1
  exact (allApp z).2
theorem hfact6 {K : PySem.W.Frag} (c : SaysK K) (i : Nat) {f : PySem.W.Frag → Bool} (h : hf6[i]? = some f := by rfl) : f K = true := List.all_eq_true.mp (hfat6 c) f (List.mem_of_getElem? h)
theorem hfat7 {K : PySem.W.Frag} (c : SaysK K) : hf7.all (fun f => f K) = true := by
  have z := saysF c
  unfold hfs at z
  have z := (allApp z).1
  have z := (allApp z).1
  have z := (allApp z).1
  have z := (allApp z).1
  have z := (allApp z).1
  have z := (allApp z).1
  have z := (allApp z).1
  have z := (allApp z).1
  have z := (allApp z).1
  have z := (allApp z).1
  have z := (allApp z).1
  have z := (allApp z).1
  have z := (allApp z).1
  have z := (allApp z).1
  have z := (allApp z).1
  exact (allApp z).2
theorem hfact7 {K : PySem.W.Frag} (c : SaysK K) (i : Nat) {f : PySem.W.Frag → Bool} (h : hf7[i]? = some f := by rfl) : f K = true := List.all_eq_true.mp (hfat7 c) f (List.mem_of_getElem? h)
theorem hfat8 {K : PySem.W.Frag} (c : SaysK K) : hf8.all (fun f => f K) = true := by
  have z := saysF c
  unfold hfs at z
  have z := (allApp z).1
  have z := (allApp z).1
  have z := (allApp z).1
  have z := (allApp z).1
  have z := (allApp z).1
  have z := (allApp z).1
  have z := (allApp z).1
  have z := (allApp z).1
  have z := (allApp z).1
  have z := (allApp z).1
  have z := (allApp z).1
  have z := (allApp z).1
  have z := (allApp z).1
  have z := (allApp z).1
  exact (allApp z).2
theorem hfact8 {K : PySem.W.Frag} (c : SaysK K) (i : Nat) {f : PySem.W.Frag → Bool} (h : hf8[i]? = some f := by rfl) : f K = true := List.all_eq_true.mp (hfat8 c) f (List.mem_of_getElem? h)
theorem hfat9 {K : PySem.W.Frag} (c : SaysK K) : hf9.all (fun f => f K) = true := by
  have z := saysF c
  unfold hfs at z
  have z := (allApp z).1
  have z := (allApp z).1
  have z := (allApp z).1
  have z := (allApp z).1
  have z := (allApp z).1
  have z := (allApp z).1
  have z := (allApp z).1
  have z := (allApp z).1
  have z := (allApp z).1
  have z := (allApp z).1
  have z := (allApp z).1
  have z := (allApp z).1
  have z := (allApp z).1
  exact (allApp z).2
theorem hfact9 {K : PySem.W.Frag} (c : SaysK K) (i : Nat) {f : PySem.W.Frag → Bool} (h : hf9[i]? = some f := by rfl) : f K = true := List.all_eq_true.mp (hfat9 c) f (List.mem_of_getElem? h)
theorem hfat10 {K : PySem.W.Frag} (c : SaysK K) : hf10.all (fun f => f K) = true := by
  have z := saysF c
  unfold hfs at z
  have z := (allApp z).1
  have z := (allApp z).1
  have z := (allApp z).1
  have z := (allApp z).1
  have z := (allApp z).1
  have z := (allApp z).1
  have z := (allApp z).1
  have z := (allApp z).1
  have z := (allApp z).1
  have z := (allApp z).1
  have z := (allApp z).1
  have z := (allApp z).1
  exact (allApp z).2
theorem hfact10 {K : PySem.W.Frag} (c : SaysK K) (i : Nat) {f : PySem.W.Frag → Bool} (h : hf10[i]? = some f := by rfl) : f K = true := List.all_eq_true.mp (hfat10 c) f (List.mem_of_getElem? h)
theorem hfat11 {K : PySem.W.Frag} (c : SaysK K) : hf11.all (fun f => f K) = true := by
  have z := saysF c
  unfold hfs at z
  have z := (allApp z).1
  have z := (allApp z).1
  have z := (allApp z).1
  have z := (allApp z).1
  have z := (allApp z).1
  have z := (allApp z).1
  have z := (allApp z).1
  have z := (allApp z).1
  have z := (allApp z).1
  have z := (allApp z).1
  have z := (allApp z).1
  exact (allApp z).2
theorem hfact11 {K : PySem.W.Frag} (c : SaysK K) (i : Nat) {f : PySem.W.Frag → Bool} (h : hf11[i]? = some f := by rfl) : f K = true := List.all_eq_true.mp (hfat11 c) f (List.mem_of_getElem? h)
theorem hfat12 {K : PySem.W.Frag} (c : SaysK K) : hf12.all (fun f => f K) = true := by
  have z := saysF c
  unfold hfs at z
  have z := (allApp z).1
  have z := (allApp z).1
  have z := (allApp z).1
  have z := (allApp z).1
  have z := (allApp z).1
  have z := (allApp z).1
  have z := (allApp z).1
  have z := (allApp z).1
  have z := (allApp z).1
  have z := (allApp z).1
  exact (allApp z).2
theorem hfact12 {K : PySem.W.Frag} (c : SaysK K) (i : Nat) {f : PySem.W.Frag → Bool} (h : hf12[i]? = some f := by rfl) : f K = true := List.all_eq_true.mp (hfat12 c) f (List.mem_of_getElem? h)
theorem hfat13 {K : PySem.W.Frag} (c : SaysK K) : hf13.all (fun f => f K) = true := by
  have z := saysF c
  unfold hfs at z
  have z := (allApp z).1
  have z := (allApp z).1
  have z := (allApp z).1
  have z := (allApp z).1
  have z := (allApp z).1
  have z := (allApp z).1
  have z := (allApp z).1
  have z := (allApp z).1
  have z := (allApp z).1
  exact (allApp z).2
theorem hfact13 {K : PySem.W.Frag} (c : SaysK K) (i : Nat) {f : PySem.W.Frag → Bool} (h : hf13[i]? = some f := by rfl) : f K = true := List.all_eq_true.mp (hfat13 c) f (List.mem_of_getElem? h)
theorem hfat14 {K : PySem.W.Frag} (c : SaysK K) : hf14.all (fun f => f K) = true := by
  have z := saysF c
  unfold hfs at z
  have z := (allApp z).1
  have z := (allApp z).1
  have z := (allApp z).1
  have z := (allApp z).1
  have z := (allApp z).1
  have z := (allApp z).1
  have z := (allApp z).1
  have z := (allApp z).1
  exact (allApp z).2
theorem hfact14 {K : PySem.W.Frag} (c : SaysK K) (i : Nat) {f : PySem.W.Frag → Bool} (h : hf14[i]? = some f := by rfl) : f K = true := List.all_eq_true.mp (hfat14 c) f (List.mem_of_getElem? h)
theorem hfat15 {K : PySem.W.Frag} (c : SaysK K) : hf15.all (fun f => f K) = true := by
  have z := saysF c
  unfold hfs at z
  have z := (allApp z).1
  have z := (allApp z).1
  have z := (allApp z).1
  have z := (allApp z).1
  have z := (allApp z).1
  have z := (allApp z).1
  have z := (allApp z).1
  exact (allApp z).2
theorem hfact15 {K : PySem.W.Frag} (c : SaysK K) (i : Nat) {f : PySem.W.Frag → Bool} (h : hf15[i]? = some f := by rfl) : f K = true := List.all_eq_true.mp (hfat15 c) f (List.mem_of_getElem? h)
theorem hfat16 {K : PySem.W.Frag} (c : SaysK K) : hf16.all (fun f => f K) = true := by
  have z := saysF c
  unfold hfs at z
  have z := (allApp z).1
  have z := (allApp z).1
  have z := (allApp z).1
  have z := (allApp z).1
  have z := (allApp z).1
  have z := (allApp z).1
  exact (allApp z).2
theorem hfact16 {K : PySem.W.Frag} (c : SaysK K) (i : Nat) {f : PySem.W.Frag → Bool} (h : hf16[i]? = some f := by rfl) : f K = true := List.all_eq_true.mp (hfat16 c) f (List.mem_of_getElem? h)
theorem hfat17 {K : PySem.W.Frag} (c : SaysK K) : hf17.all (fun f => f K) = true := by
  have z := saysF c
  unfold hfs at z
  have z := (allApp z).1
  have z := (allApp z).1
  have z := (allApp z).1
  have z := (allApp z).1
  have z := (allApp z).1
  exact (allApp z).2
theorem hfact17 {K : PySem.W.Frag} (c : SaysK K) (i : Nat) {f : PySem.W.Frag → Bool} (h : hf17[i]? = some f := by rfl) : f K = true := List.all_eq_true.mp (hfat17 c) f (List.mem_of_getElem? h)
theorem hfat18 {K : PySem.W.Frag} (c : SaysK K) : hf18.all (fun f => f K) = true := by
  have z := saysF c
  unfold hfs at z
  have z := (allApp z).1
  have z := (allApp z).1
  have z := (allApp z).1
  have z := (allApp z).1
  exact (allApp z).2
theorem hfact18 {K : PySem.W.Frag} (c : SaysK K) (i : Nat) {f : PySem.W.Frag → Bool} (h : hf18[i]? = some f := by rfl) : f K = true := List.all_eq_true.mp (hfat18 c) f (List.mem_of_getElem? h)
theorem hfat19 {K : PySem.W.Frag} (c : SaysK K) : hf19.all (fun f => f K) = true := by
  have z := saysF c
  unfold hfs at z
  have z := (allApp z).1
  have z := (allApp z).1
  have z := (allApp z).1
  exact (allApp z).2
theorem hfact19 {K : PySem.W.Frag} (c : SaysK K) (i : Nat) {f : PySem.W.Frag → Bool} (h : hf19[i]? = some f := by rfl) : f K = true := List.all_eq_true.mp (hfat19 c) f (List.mem_of_getElem? h)
theorem hfat20 {K : PySem.W.Frag} (c : SaysK K) : hf20.all (fun f => f K) = true := by
  have z := saysF c
  unfold hfs at z
  have z := (allApp z).1
  have z := (allApp z).1
  exact (allApp z).2
theorem hfact20 {K : PySem.W.Frag} (c : SaysK K) (i : Nat) {f : PySem.W.Frag → Bool} (h : hf20[i]? = some f := by rfl) : f K = true := List.all_eq_true.mp (hfat20 c) f (List.mem_of_getElem? h)
theorem hfat21 {K : PySem.W.Frag} (c : SaysK K) : hf21.all (fun f => f K) = true := by
  have z := saysF c
  unfold hfs at z
  have z := (allApp z).1
  exact (allApp z).2
theorem hfact21 {K : PySem.W.Frag} (c : SaysK K) (i : Nat) {f : PySem.W.Frag → Bool} (h : hf21[i]? = some f := by rfl) : f K = true := List.all_eq_true.mp (hfat21 c) f (List.mem_of_getElem? h)
theorem hfat22 {K : PySem.W.Frag} (c : SaysK K) : hf22.all (fun f => f K) = true := by
  have z := saysF c
  unfold hfs at z
  exact (allApp z).2
theorem hfact22 {K : PySem.W.Frag} (c : SaysK K) (i : Nat) {f : PySem.W.Frag → Bool} (h : hf22[i]? = some f := by rfl) : f K = true := List.all_eq_true.mp (hfat22 c) f (List.mem_of_getElem? h)
def nm0 : List PySem.Str := [(PySem.Str.ofString "HoldError"), (PySem.Str.ofString "NoText"), (PySem.Str.ofString "shown"), (PySem.Str.ofString "all_told"), (PySem.Str.ofString "Row"), (PySem.Str.ofString "SetRow"), (PySem.Str.ofString "MakeRow"), (PySem.Str.ofString "NoneRow"), (PySem.Str.ofString "GiveRow"), (PySem.Str.ofString "TakeRow"), (PySem.Str.ofString "FillRow"), (PySem.Str.ofString "SwapRow"), (PySem.Str.ofString "GetRow"), (PySem.Str.ofString "PutRow"), (PySem.Str.ofString "HasRow"), (PySem.Str.ofString "DropRow"), (PySem.Str.ofString "LendRow"), (PySem.Str.ofString "StepRow"), (PySem.Str.ofString "CallRow"), (PySem.Str.ofString "BackRow"), (PySem.Str.ofString "AskRow"), (PySem.Str.ofString "TellRow"), (PySem.Str.ofString "IfRow"), (PySem.Str.ofString "WhileRow"), (PySem.Str.ofString "Record"), (PySem.Str.ofString "Helper"), (PySem.Str.ofString "Program"), (PySem.Str.ofString "LETTERS"), (PySem.Str.ofString "FIGURES"), (PySem.Str.ofString "SIGNS"), (PySem.Str.ofString "KEPT"), (PySem.Str.ofString "LONGEST"), (PySem.Str.ofString "GREATEST"), (PySem.Str.ofString "MOST_RECORDS"), (PySem.Str.ofString "MOST_FIELDS")]
def nm1 : List PySem.Str := [(PySem.Str.ofString "MOST_HELPERS"), (PySem.Str.ofString "MOST_PARAMS"), (PySem.Str.ofString "MOST_ROWS"), (PySem.Str.ofString "MOST_DEEP"), (PySem.Str.ofString "MOST_PATH"), (PySem.Str.ofString "is_name"), (PySem.Str.ofString "is_kind"), (PySem.Str.ofString "number_of"), (PySem.Str.ofString "atom_of"), (PySem.Str.ofString "path_of"), (PySem.Str.ofString "given_of"), (PySem.Str.ofString "set_of"), (PySem.Str.ofString "make_of"), (PySem.Str.ofString "call_of"), (PySem.Str.ofString "path_row_of"), (PySem.Str.ofString "pair_row_of"), (PySem.Str.ofString "into_row_of"), (PySem.Str.ofString "single_row_of"), (PySem.Str.ofString "row_by"), (PySem.Str.ofString "record_by"), (PySem.Str.ofString "param_by"), (PySem.Str.ofString "Head"), (PySem.Str.ofString "head_by"), (PySem.Str.ofString "Block"), (PySem.Str.ofString "Reader"), (PySem.Str.ofString "read"), (PySem.Str.ofString "_law_draw"), (PySem.Str.ofString "_law_rows_by"), (PySem.Str.ofString "_law_last_row"), (PySem.Str.ofString "_law_built"), (PySem.Str.ofString "_law_counts")]
def nms : List PySem.Str := nm0 ++ nm1
abbrev R : PySem.W.OpenRow := PySem.W.OpenLaw.row PySem.Challenge.rw_holders_k07_bounds
abbrev qv : Program := PySem.W.view R.prog [71]
set_option maxHeartbeats 0 in
theorem run (w : World) : HandSHeadRun.RunEq R qv hk ob 20000 nms w := by
  intro os
  kernel_rfl
end My
section
open PySem PySem.W PySem.Calls PyProof.Rows
set_option maxRecDepth 100000 in
set_option maxHeartbeats 0 in
theorem skel_end (hfacts : ∀ (w : PySem.World) (K : PySem.W.Frag) (h : PySem.Heap) (mg : PySem.Str → Option PySem.Value) (fa : PySem.Addr), K.In h → h.Ns PySem.mainGlobals mg → mg ("law" : PySem.Str) = some (.ref fa) → My.SaysK K → ∃ fd : PySem.FuncData, (∀ (s : PySem.Shared) (v : PySem.Value), BindsTo s fd ⟨[v], []⟩ [(("_law_script" : PySem.Str), v)]) ∧ ∀ base : PySem.Heap, K.In base → base.Ns PySem.mainGlobals mg → L2.FnOk (PySem.W.OpenLaw.prog PySem.Challenge.rw_holders_k07_bounds) w K mg base L2.CX0 24 fa fd [("_law_script" : PySem.Str)] (My.spLaw K)) : PySem.Challenge.rw_holders_k07_bounds.Holds := by
  w_on; o_law
  refine HandSHeadRun.head_any (r := My.R) (q := My.qv) (H := My.hk) (ob := My.ob) (M := 20000) (loose := My.nms) (d := HandSHeadRun.topDef (OpenLaw.row PySem.Challenge.rw_holders_k07_bounds).prog 71) (kwd := []) My.ob_eq
    (by kernel_rfl) (fun s => by kernel_rfl) My.run (by kernel_rfl) (by kernel_rfl) (by kernel_rfl) (by rfl) (by first | assumption | decide +kernel) (by decide +kernel) ⟨rfl, rfl, rfl, rfl, rfl, by decide +kernel⟩ ?hw ?hc
  case hw => w_witness2
  case hc =>
    refine L2.walk_ofE (l := PySem.Challenge.rw_holders_k07_bounds) (n := 63) (k := 24) (x := "_law_script") (CX := L2.CX0) rfl (by decide) (by kernel_rfl) ⟨rfl, by decide, by decide⟩ ?F (fun _ _ _ _ z => z)
    intro w mg fa h Y G hmg0
    obtain ⟨K, KX, c⟩ := Y
    have hmg : mg ("law" : PySem.Str) = some (.ref fa) := by
      have e : (HandSHeadRun.topDef (OpenLaw.row PySem.Challenge.rw_holders_k07_bounds).prog 71).name = ("law" : PySem.Str) := by kernel_rfl
      rw [← e]
      exact hmg0
    obtain ⟨fd, hb, hF⟩ := hfacts w K _ _ _ KX G hmg c
    exact ⟨K, fd, My.spLaw K, KX, hb, fun H a ns hl _ hS => ⟨a, ns, rfl, hS, hl, fun _ => rfl⟩, hF⟩
end
namespace My
open PySem L2
theorem cmR {i j : Int} (h0 : -1000000000000 < j) (h1 : j < 1000000000000) : CMul i j := by
  have e : (2 : Int) ^ 64 = 18446744073709551616 := by decide
  exact .inr ⟨by rw [e]; omega, by rw [e]; omega⟩
theorem cmL {i j : Int} (h0 : -1000000000000 < i) (h1 : i < 1000000000000) : CMul i j := by
  have e : (2 : Int) ^ 64 = 18446744073709551616 := by decide
  exact .inl ⟨by rw [e]; omega, by rw [e]; omega⟩
theorem dvW {i j : Int} (h0 : 0 < j) (h1 : j < 1000000000000) : CDivW i j := wide_div h0 (b := 40) (by
  have e : (2 : Nat) ^ 40 = 1099511627776 := by decide
  rw [e]
  omega) (by decide) (by decide)
theorem ints_at {ns : List Int} {k : Nat} {z : Int} (h : ns[k]? = some z) : atI (ns.map V.int) (k : Int) = some (.int z) := atI_nat (by rw [List.getElem?_map, h]; rfl)
/-! ### data that is compared -/
theorem dpInts {K : PySem.W.Frag} {H : Hp} : ∀ ns : List Int, DpAll K H (ns.map V.int) (ns.map PyData.int)
  | [] => .nil
  | n :: ns => .cons (.int n) (dpInts ns)
theorem dpIntL {K : PySem.W.Frag} {H : Hp} {a : Addr} {ns : List Int} (h : SqL K H a (ns.map V.int)) : Dp K H (.ref a) (.list (ns.map PyData.int)) := .lst h (dpInts ns)
theorem layInts : ∀ ns : List Int, PyData.canLayAll0 (ns.map PyData.int) = true
  | [] => by simp [PyData.canLayAll0]
  | n :: ns => by simp [PyData.canLayAll0, PyData.canLay0, layInts ns]
theorem deepInts : ∀ ns : List Int, PyData.depthAll (ns.map PyData.int) ≤ 1
  | [] => by simp [PyData.depthAll]
  | n :: ns => by
    have := deepInts ns
    simp only [List.map_cons, PyData.depthAll, PyData.depth]
    omega
theorem shapedOf {d : PyData} (h : d.canLay0 = true) (h2 : d.depth ≤ 64) : SeqAt.shaped d = true := by
  unfold SeqAt.shaped
  rw [h, decide_eq_true h2] <;> rfl
theorem shInts (ns : List Int) : SeqAt.shaped (.list (ns.map PyData.int)) = true := shapedOf (by simp only [PyData.canLay0]; exact layInts ns) (by
  have := deepInts ns
  simp only [PyData.depth]
  omega)
theorem eqvAllInts : ∀ ns ms : List Int, PyData.eqvAll (ns.map PyData.int) (ms.map PyData.int) = decide (ns = ms)
  | [], [] => by simp [PyData.eqvAll]
  | [], m :: ms => by simp [PyData.eqvAll]
  | n :: ns, [] => by simp [PyData.eqvAll]
  | n :: ns, m :: ms => by
    have e := eqvAllInts ns ms
    simp only [List.map_cons, PyData.eqvAll, PyData.eqv, e]
    by_cases h : n = m <;> by_cases h2 : ns = ms <;> simp [h, h2]
theorem eqvInts (ns ms : List Int) : PyData.eqv (.list (ns.map PyData.int)) (.list (ms.map PyData.int)) = decide (ns = ms) := by
  rw [PyData.eqv]
  exact eqvAllInts ns ms
/-! ### tests whose outcome is known, heaps that stay -/
theorem iteDF {c A B : Prop} [Decidable c] (hc : ¬ c) (h : B) : if decide c = true then A else B := by
  rw [decide_eq_false hc]
  exact iteF h
theorem iteDT {c A B : Prop} [Decidable c] (hc : c) (h : A) : if decide c = true then A else B := by
  rw [decide_eq_true hc]
  exact iteT h
theorem iteBF {b : Bool} {A B : Prop} (hb : b = false) (h : B) : if b = true then A else B := by
  subst hb
  exact iteF h
theorem iteBT {b : Bool} {A B : Prop} (hb : b = true) (h : A) : if b = true then A else B := by
  subst hb
  exact iteT h
theorem same_upd {H : Hp} {a : Addr} {o : HO} (h : H a = none) : Same H (upd H a o) := fun b u e => by
  rw [upd_ne (ne_of_none e h)]
  exact e
theorem same_updT {H H' : Hp} {a : Addr} {o : HO} (s : Same H H') (h : H a = none) : Same H (upd H' a o) := fun b u e => by
  rw [upd_ne (ne_of_none e h)]
  exact s b u e
theorem sameT {K : PySem.W.Frag} {H H' : Hp} {a : Addr} {xs : List V} (e : Same H H') (h : SqT K H a xs) : SqT K H' a xs := by
  rcases h with (h | ⟨o, h⟩) | h
  · exact .inl (.inl (e _ _ h))
  · exact .inl (.inr ⟨o, e _ _ h⟩)
  · exact .inr h
theorem cut_hi (xs : List V) (n : Nat) : cutV xs none (some (n : Int)) = xs.take n := by
  unfold cutV
  rw [HT.sIx_none, HT.sIx_nat, List.drop_zero, Nat.sub_zero, ← List.take_eq_take_min]
theorem cut_lo (xs : List V) (n : Nat) : cutV xs (some (n : Int)) none = xs.drop n := by
  unfold cutV
  rw [HT.sIx_none, HT.sIx_nat]
  by_cases h : n ≤ xs.length
  · rw [Nat.min_eq_left h, ← List.length_drop, List.take_length]
  · rw [Nat.min_eq_right (by omega), List.drop_eq_nil_of_le (by omega : xs.length ≤ xs.length), List.drop_eq_nil_of_le (by omega : xs.length ≤ n)]
    simp
theorem inInts (z : Int) (l : List Int) : inV (.int z) (l.map V.int) = decide (z ∈ l) := by
  unfold inV
  rw [List.any_map, Bool.eq_iff_iff]
  simp only [List.any_eq_true, Function.comp, eqV, beq_iff_eq, decide_eq_true_eq]
  exact ⟨fun ⟨x, h, e⟩ => e ▸ h, fun h => ⟨z, h, rfl⟩⟩
theorem flatInts (l : List Int) : (l.map V.int).all flatV = true := by
  rw [List.all_map, List.all_eq_true]
  intro _ _
  rfl
/-! ### rules that speak of the written part, with it by name (within comprehensions) -/
section
variable {X : Cx} {K : PySem.W.Frag}
theorem len_seqK (h : X.K = K) : CallR X (.builtin "len") (fun xs H Q => ∃ p ys, xs = [.ref p] ∧ (SqL K H p ys ∨ SqT K H p ys) ∧ Q (.int ys.length) H) := by
  subst h
  exact call_len_seq
theorem list_ofK (h : X.K = K) : CallR X (.type "list") (fun xs H Q => ∃ p ys, xs = [.ref p] ∧ (SqL K H p ys ∨ SqT K H p ys) ∧ ∀ l, H l = none → Q (.ref l) (upd H l (.lst ys))) := by
  subst h
  exact call_list_of
theorem tuple_ofK (h : X.K = K) : CallR X (.type "tuple") (fun xs H Q => ∃ p ys, xs = [.ref p] ∧ ((SqL K H p ys ∧ ∀ l, H l = none → Q (.ref l) (upd H l (.tup ys))) ∨ (SqT K H p ys ∧ Q (.ref p) H))) := by
  subst h
  exact call_tuple_of
theorem in_seqK (h : X.K = K) : OpR X (compareOp .In) (rIn K false) := by
  subst h
  exact op_in_seq
theorem notIn_seqK (h : X.K = K) : OpR X (compareOp .NotIn) (rIn K true) := by
  subst h
  exact op_notIn_seq
theorem eqDK (h : X.K = K) (hu : X.A.units + 64 < cLine) : OpR X (compareOp .Eq) (rEqD K) := by
  subst h
  exact op_eqD hu
theorem neDK (h : X.K = K) (hu : X.A.units + 64 < cLine) : OpR X (compareOp .NotEq) (rNeD K) := by
  subst h
  exact op_neD hu
theorem ix_listK (h : X.K = K) : IxR X (rIxL K) := by
  subst h
  exact ix_list
theorem ix_tupK (h : X.K = K) : IxR X (rIxT K) := by
  subst h
  exact ix_tup
end
section
variable {X : Cx} {K : PySem.W.Frag} {o e : Expr} {f : Str} {pos : Pos} {ta : TE} {tg : Expr}
theorem fldK (h : X.K = K) (he : PE X e ta) (hb : attributeBase e f X.env (eval e X.env) = eval e X.env) : PE X (.Attribute e f pos) (tFld K ta f) := by
  subst h
  exact pe_fld he hb
theorem sl_listK (h : X.K = K) : SlR X (rSlL K) := by
  subst h
  exact sl_list
theorem sl_tupAK (h : X.K = K) : SlR X (rSlA K) := by
  subst h
  exact sl_tupA
theorem catAK (h : X.K = K) : OpR X (binaryOp .Add) (rCatA K) := by
  subst h
  exact op_catA
theorem isiK (h : X.K = K) : CallR X (.builtin "isinstance") (rIsi K) := by
  subst h
  exact call_isi
theorem pi_tupK (h : X.K = K) (he : PE X e ta) : PI X tg e (iTup K ta) := by
  subst h
  exact pi_tup he
theorem pi_listK (h : X.K = K) (he : PE X e ta) : PI X tg e (iList K ta) := by
  subst h
  exact pi_list he
/-- one of two readings -/
def tAlt (t u : TE) : TE := fun σ H Q => t σ H Q ∨ u σ H Q
theorem peAlt {t u : TE} (h1 : PE X e t) (h2 : PE X e u) : PE X e (tAlt t u) :=
  ⟨fun pins s σ H Q I h => h.elim (h1.run pins s σ H Q I) (h2.run pins s σ H Q I)⟩
end
theorem putF_len {f : Str} {v : V} : ∀ fs : List (Str × V), (putF f v fs).length ≤ fs.length + 1
  | [] => Nat.le_refl _
  | (g, x) :: r => by
    show (if g = f then (g, v) :: r else (g, x) :: putF f v r).length ≤ _
    split
    · simp
    · have := putF_len (f := f) (v := v) r
      simp only [List.length_cons]
      omega
theorem same_made {H : Hp} {x dx C : Addr} {fs : List (Str × V)} (nx : H x = none) (nd : H dx = none) : Same H (upd (upd H dx (.own x)) x (.ins C dx fs)) := fun b o e => by
  rw [upd_ne (ne_of_none e nx), upd_ne (ne_of_none e nd)]
  exact e
/-- what stands, but one object -/
def SameBut (p : Addr) (H H' : Hp) : Prop := ∀ b o, H b = some o → b ≠ p → H' b = some o
theorem SameBut.made {H H2 : Hp} {x dx C : Addr} {fs : List (Str × V)} (s : SameBut x (upd (upd H dx (.own x)) x (.ins C dx fs)) H2) (nx : H x = none) (nd : H dx = none) : Same H H2 := fun b o e =>
  s b o (same_made nx nd b o e) (ne_of_none e nx)
local macro_rules | `(tactic| walk_at "flook") => `(tactic| (repeat (first | rw [lookup_putF, if_pos rfl] | rw [lookup_putF, if_neg (by decide +kernel)])))
theorem yes {σ : St} {H : Hp} {Q : Bool → Hp → Prop} (h : Q true H) : tYes σ H Q := h
theorem noPart {σ : St} {H : Hp} {Q : Option Int → Hp → Prop} (h : Q none H) : tNoPart σ H Q := h
/-! ### what stays -/
theorem fresh {H H' : Hp} {p : Addr} {o : HO} (hp : H p = none) (e : upd H p o = H') : Same H H' ∧ H' p = some o := by
  subst e
  exact ⟨same_upd hp, upd_same⟩
def still : HO → Prop
  | .tup _ => True
  | .ins _ _ _ => True
  | _ => False
/-- tuples and instances stay -/
def Keep (H H' : Hp) : Prop := ∀ b o, H b = some o → still o → H' b = some o
theorem Keep.of {H H' : Hp} (s : Same H H') : Keep H H' := fun b o e _ => s b o e
theorem Keep.but {H H' : Hp} {f : Addr} {kvs : List (Key × V)} (s : SameBut f H H') (hf : H f = some (.dK kvs)) : Keep H H' := fun b o e st => s b o e (by
  intro q
  subst q
  rw [hf] at e
  cases e
  exact st)
theorem Keep.butL {H H' : Hp} {f : Addr} {xs : List V} (s : SameBut f H H') (hf : H f = some (.lst xs)) : Keep H H' := fun b o e st => s b o e (by
  intro q
  subst q
  rw [hf] at e
  cases e
  exact st)
theorem Keep.trans {H H1 H2 : Hp} (a : Keep H H1) (b : Keep H1 H2) : Keep H H2 := fun p o e st => b p o (a p o e st) st
/-! ### readings, step by step: a word for each reading, and the tactic that applies them -/
/-- a new object -/
structure New (p : Addr) (o : HO) (H H' : Hp) : Prop where
  free : H p = none
  at_ : H' p = some o
  same : Same H H'
/-- one object changed -/
structure Chg (p : Addr) (o o' : HO) (H H' : Hp) : Prop where
  was : H p = some o
  at_ : H' p = some o'
  but : SameBut p H H'
def kd : HO → Nat
  | .lst _ => 0
  | .tup _ => 1
  | .dK _ => 2
  | .dT _ => 3
  | .ins _ _ _ => 4
  | _ => 9
section
variable {H H' H'' : Hp} {p q : Addr} {o u a b : HO}
theorem New.mk' (h : H p = none) : New p o H (upd H p o) := ⟨h, upd_same, same_upd h⟩
theorem Chg.mk' (h : H p = some o) : Chg p o u H (upd H p u) := ⟨h, upd_same, fun b x e n => by rw [upd_ne n]; exact e⟩
theorem New.get (n : New q u H H') (h : H p = some o) : H' p = some o := n.same _ _ h
theorem sameGet (n : Same H H') (h : H p = some o) : H' p = some o := n _ _ h
theorem Chg.get (c : Chg q a b H H') (h : H p = some o) (ne : p ≠ q) : H' p = some o := c.but _ _ h ne
theorem Chg.getK (c : Chg q a b H H') (h : H p = some o) (ne : (kd o == kd a) = false) : H' p = some o := c.but _ _ h (ne_of h c.was fun z => by
  subst z
  rw [beq_self_eq_true] at ne
  cases ne)
theorem sbutGet (n : SameBut q H H') (h : H p = some o) (ne : p ≠ q) : H' p = some o := n _ _ h ne
theorem keepGet (k : Keep H H') (h : H p = some o) (s : still o) : H' p = some o := k _ _ h s
theorem New.ne (n : New p o H H') (h : H q = some u) : p ≠ q := (ne_of_none h n.free).symm
theorem New.keep (n : New q u H H') : Keep H H' := Keep.of n.same
theorem Chg.keep (c : Chg q a b H H') (s : ¬ still a) : Keep H H' := fun x y e st => c.but x y e (fun z => by
  subst z
  have := c.was.symm.trans e
  cases this
  exact s st)
theorem Chg.keepL {xs : List V} (c : Chg q (.lst xs) b H H') : Keep H H' := c.keep (fun h => h)
theorem Chg.keepD {xs : List (L2.Key × V)} (c : Chg q (.dK xs) b H H') : Keep H H' := c.keep (fun h => h)
theorem Chg.keepE {xs : List (List L2.Key × V)} (c : Chg q (.dT xs) b H H') : Keep H H' := c.keep (fun h => h)
theorem keepStep (k : Keep H' H'') (l : Keep H H') : Keep H H'' := l.trans k
theorem sameStep (k : Same H' H'') (l : Same H H') : Same H H'' := l.trans k
/-- an object of one's own was changed: seen from ahead of its making nothing is -/
theorem Chg.sameOwn (c : Chg q a b H' H'') (l : Same H H') (f : H q = none) : Same H H'' := fun x y e => c.but _ _ (l _ _ e) (ne_of_none e f)
theorem butStep (k : Same H' H'') (l : SameBut p H H') : SameBut p H H'' := fun x y e n => k _ _ (l _ _ e n)
theorem Chg.butStep (c : Chg p a b H' H'') (l : SameBut p H H') : SameBut p H H'' := fun x y e n => c.but _ _ (l _ _ e n) n
theorem freeBack (h : H' p = none) (s : Same H H') : H p = none := s.free h
end
section
variable {K : PySem.W.Frag} {σ σ' : St} {H : Hp} {Q : VK}
theorem w_seq {t u : TS} {D : Ends} (h : t { D with nx := u D } σ H) : tSeq t u D σ H := h
theorem w_next {D : Ends} (h : D.nx σ H) : tNext D σ H := h
theorem w_nx {nx : St → Hp → Prop} {rt : V → Hp → Prop} {bk ct : St → Hp → Prop} (h : nx σ H) : Ends.nx ⟨nx, rt, bk, ct⟩ σ H := h
theorem w_rt {nx : St → Hp → Prop} {rt : V → Hp → Prop} {bk ct : St → Hp → Prop} {v : V} (h : rt v H) : Ends.rt ⟨nx, rt, bk, ct⟩ v H := h
theorem w_bk {nx : St → Hp → Prop} {rt : V → Hp → Prop} {bk ct : St → Hp → Prop} (h : bk σ H) : Ends.bk ⟨nx, rt, bk, ct⟩ σ H := h
theorem w_ct {nx : St → Hp → Prop} {rt : V → Hp → Prop} {bk ct : St → Hp → Prop} (h : ct σ H) : Ends.ct ⟨nx, rt, bk, ct⟩ σ H := h
theorem w_break {D : Ends} (h : D.bk σ H) : tBreak D σ H := h
theorem w_cont {D : Ends} (h : D.ct σ H) : tCont D σ H := h
theorem w_drop {te : TE} {D : Ends} (h : te σ H fun _ H1 => D.nx σ H1) : tDrop te D σ H := h
theorem w_ret {te : TE} {D : Ends} (h : te σ H D.rt) : tRet te D σ H := h
theorem w_retN {D : Ends} (h : D.rt .non H) : tRetN D σ H := h
theorem w_ifS {c : TT} {t u : TS} {D : Ends} (h : c σ H fun b H1 => if b = true then t D σ H1 else u D σ H1) : tIfS c t u D σ H := h
theorem w_if {c : TT} {t u : TE} (h : c σ H fun b H1 => if b = true then t σ H1 Q else u σ H1 Q) : tIf c t u σ H Q := h
theorem w_asg {te : TE} {g : TG} {D : Ends} (h : te σ H fun x H1 => g x σ H1 D.nx) : tAsg te g D σ H := h
theorem w_name {i : Nat} {v : V} {Q : St → Hp → Prop} (h : ∀ σ', σ.set i (some v) = σ' → Q σ' H) : gName i v σ H Q := h _ rfl
theorem w_var {i : Nat} {v : V} (e : σ[i]? = some (some v)) (h : Q v H) : tVar i σ H Q := ⟨v, e, h⟩
theorem w_C {v : V} (h : Q v H) : tC v σ H Q := h
theorem w_op {r : R2} {ta tb : TE} (h : ta σ H fun x H1 => tb σ H1 fun y H2 => r x y H2 Q) : tOp r ta tb σ H Q := h
theorem w_un {r : V → Hp → VK → Prop} {ta : TE} (h : ta σ H fun x H1 => r x H1 Q) : tUn r ta σ H Q := h
theorem w_rI0 {g : Int → Int → V} {i j : Int} (h : Q (g i j) H) : rI0 g (.int i) (.int j) H Q := ⟨i, j, rfl, rfl, h⟩
theorem w_rI {C : Int → Int → Prop} {g : Int → Int → V} {i j : Int} (c : C i j) (h : Q (g i j) H) : rI C g (.int i) (.int j) H Q := ⟨i, j, rfl, rfl, c, h⟩
theorem w_rU {g : Int → V} {i : Int} (h : Q (g i) H) : rU g (.int i) H Q := ⟨i, rfl, h⟩
theorem dec_vi {i j : Int} : decide (V.int i = V.int j) = decide (i = j) := by simp
theorem dec_vs {i j : Str} : decide (V.str i = V.str j) = decide (i = j) := by simp
theorem w_rEqI {i j : Int} (h : Q (.bl (decide (i = j))) H) : rEq (.int i) (.int j) H Q := ⟨rfl, by rw [dec_vi]; exact h⟩
theorem w_rNeI {i j : Int} (h : Q (.bl (!decide (i = j))) H) : rNe (.int i) (.int j) H Q := ⟨rfl, by rw [dec_vi]; exact h⟩
theorem w_rEqS {i j : Str} (h : Q (.bl (decide (i = j))) H) : rEq (.str i) (.str j) H Q := ⟨rfl, by rw [dec_vs]; exact h⟩
theorem w_rNeS {i j : Str} (h : Q (.bl (!decide (i = j))) H) : rNe (.str i) (.str j) H Q := ⟨rfl, by rw [dec_vs]; exact h⟩
theorem w_tB {t : TE} {Q : Bool → Hp → Prop} (h : t σ H fun x H1 => ∃ c, x = .bl c ∧ Q c H1) : tB t σ H Q := h
theorem w_test {t : TE} {Q : Bool → Hp → Prop} (h : t σ H fun x H1 => ∃ c, x = .bl c ∧ Q c H1) : tTest t σ H Q := h
theorem w_bl {b : Bool} {Q : Bool → Hp → Prop} (h : Q b H) : ∃ c, V.bl b = .bl c ∧ Q c H := ⟨b, rfl, h⟩
theorem w_blB {b : Bool} {P : Bool → Prop} (h : P b) : ∃ c, V.bl b = .bl c ∧ P c := ⟨b, rfl, h⟩
theorem w_and {t u : TT} {Q : Bool → Hp → Prop} (h : t σ H fun c H1 => if c = true then u σ H1 Q else Q false H1) : tAnd t u σ H Q := h
theorem w_or {t u : TT} {Q : Bool → Hp → Prop} (h : t σ H fun c H1 => if c = true then Q true H1 else u σ H1 Q) : tOr t u σ H Q := h
theorem w_not {t : TT} {Q : Bool → Hp → Prop} (h : t σ H fun c H1 => Q (!c) H1) : tNot t σ H Q := h
theorem w_andV {ta tb : TE} (h : ta σ H fun x H1 => ∃ c, x = .bl c ∧ if c = true then tb σ H1 Q else Q (.bl false) H1) : tAndV ta tb σ H Q := h
theorem w_orV {ta tb : TE} (h : ta σ H fun x H1 => ∃ c, x = .bl c ∧ if c = true then Q (.bl true) H1 else tb σ H1 Q) : tOrV ta tb σ H Q := h
theorem w_notV {ta : TE} (h : ta σ H fun x H1 => ∃ c, x = .bl c ∧ Q (.bl (!c)) H1) : tNotV ta σ H Q := h
theorem w_isN {ta : TE} (h : ta σ H fun x H1 => Q (.bl (decide (x = .non))) H1) : tIsN ta σ H Q := h
theorem w_notN {ta : TE} (h : ta σ H fun x H1 => Q (.bl (!decide (x = .non))) H1) : tNotN ta σ H Q := h
theorem w_nil {Q : List V → Hp → Prop} (h : Q [] H) : tNil σ H Q := h
theorem w_cons {ta : TE} {tr : TA} {Q : List V → Hp → Prop} (h : ta σ H fun x H1 => tr σ H1 fun xs H2 => Q (x :: xs) H2) : tCons ta tr σ H Q := h
theorem w_cb {r : List V → Hp → VK → Prop} {t : TA} (h : t σ H fun vs H1 => r vs H1 Q) : tCB r t σ H Q := h
theorem w_call {sp : Sp} {dvs : List V} {E : XK} {t : TA} (h : t σ H fun vs H1 => sp (vs ++ dvs) H1 Q E) : tCall sp dvs E t σ H Q := h
def kNew (f : List V → HO) (xs : List V) (H : Hp) (Q : VK) : Prop := xs.length ≤ sizeLine ∧ ∀ p, H p = none → Q (.ref p) (upd H p (f xs))
theorem w_tup {t : TA} (h : t σ H fun xs H1 => kNew .tup xs H1 Q) : tTup t σ H Q := h
theorem w_lst {t : TA} (h : t σ H fun xs H1 => kNew .lst xs H1 Q) : tLst t σ H Q := h
theorem w_newT {xs : List V} (hl : xs.length ≤ sizeLine) (h : ∀ p H', New p (.tup xs) H H' → Q (.ref p) H') : kNew .tup xs H Q := ⟨hl, fun p hp => h p _ (New.mk' hp)⟩
theorem w_newL {xs : List V} (hl : xs.length ≤ sizeLine) (h : ∀ p H', New p (.lst xs) H H' → Q (.ref p) H') : kNew .lst xs H Q := ⟨hl, fun p hp => h p _ (New.mk' hp)⟩
theorem w_ixT {p : Addr} {xs : List V} {i : Int} {v : V} (a : H p = some (.tup xs)) (e : atI xs i = some v) (h : Q v H) : rIxT K (.ref p) (.int i) H Q := ⟨p, xs, i, v, rfl, rfl, SqT.of a, e, h⟩
theorem w_ixL {p : Addr} {xs : List V} {i : Int} {v : V} (a : H p = some (.lst xs)) (e : atI xs i = some v) (h : Q v H) : rIxL K (.ref p) (.int i) H Q := ⟨p, xs, i, v, rfl, rfl, SqL.of a, e, h⟩
theorem w_lenL {p : Addr} {xs : List V} {P : List V → Prop} (a : H p = some (.lst xs)) (h : P xs) : ∃ p' ys, [V.ref p] = [.ref p'] ∧ (SqL K H p' ys ∨ SqT K H p' ys) ∧ P ys := ⟨p, xs, rfl, .inl (SqL.of a), h⟩
theorem w_lenT {p : Addr} {xs : List V} {P : List V → Prop} (a : H p = some (.tup xs)) (h : P xs) : ∃ p' ys, [V.ref p] = [.ref p'] ∧ (SqL K H p' ys ∨ SqT K H p' ys) ∧ P ys := ⟨p, xs, rfl, .inr (SqT.of a), h⟩
theorem w_bm {T : String} {r : V → List V → Hp → VK → Prop} {to : TE} {t : TA} (h : to σ H fun x H1 => tyV K T x H1 ∧ t σ H1 fun xs H2 => r x xs H2 Q) : tBM K T r to t σ H Q := h
theorem w_bm0 {T : String} {r : V → List V → Hp → VK → Prop} {to : TE} (h : to σ H fun x H1 => tyV K T x H1 ∧ r x [] H1 Q) : tBM0 K T r to σ H Q := h
theorem w_tyL {p : Addr} {xs : List V} {B : Prop} (a : H p = some (.lst xs)) (h : B) : tyV K "list" (.ref p) H ∧ B := ⟨.inl ⟨rfl, _, SqL.of a⟩, h⟩
theorem w_append {l : Addr} {xs : List V} {y : V} (a : H l = some (.lst xs)) (sz : xs.length < sizeLine) (h : ∀ H', Chg l (.lst xs) (.lst (xs ++ [y])) H H' → Q .non H') : rAppend (.ref l) [y] H Q := ⟨l, xs, y, rfl, rfl, a, sz, h _ (Chg.mk' a)⟩
theorem w_setL {l : Addr} {xs : List V} {k : Int} {j : Nat} {v : V} {Q : Hp → Prop} (a : H l = some (.lst xs)) (e : ixN xs.length k = some j) (h : ∀ H', Chg l (.lst xs) (.lst (xs.set j v)) H H' → Q H') : rSetL (.ref l) (.int k) v H Q := ⟨l, xs, k, j, rfl, rfl, a, e, h _ (Chg.mk' a)⟩
theorem w_fld {ta : TE} {f : Str} (h : ta σ H fun x H1 => ∃ a C dx fs v, x = .ref a ∧ H1 a = some (.ins C dx fs) ∧ Cls K C ∧ NoAttr K C f ∧ fs.lookup f = some v ∧ Q v H1) : tFld K ta f σ H Q := h
theorem w_fld1 {a C dx : Addr} {fs : List (Str × V)} {v : V} {f : Str} (i : H a = some (.ins C dx fs)) (c : Cls K C) (n : NoAttr K C f) (l : fs.lookup f = some v) (h : Q v H) : ∃ a' C' dx' fs' v', V.ref a = .ref a' ∧ H a' = some (.ins C' dx' fs') ∧ Cls K C' ∧ NoAttr K C' f ∧ fs'.lookup f = some v' ∧ Q v' H := ⟨a, C, dx, fs, v, rfl, i, c, n, l, h⟩
theorem w_par {i j : Nat} {ta : TA} {D : Ends} (h : ta σ H fun vs H1 => ∃ v w, vs = [v, w] ∧ D.nx ((σ.set i (some v)).set j (some w)) H1) : tPar i j ta D σ H := h
theorem w_par1 {v w : V} {P : V → V → Prop} (h : P v w) : ∃ v' w', [v, w] = [v', w'] ∧ P v' w' := ⟨v, w, rfl, h⟩
theorem w_aug {i : Nat} {x : V} {te : TE} {ti : TIp} {D : Ends} (e : σ[i]? = some (some x)) (h : te σ H fun y H1 => ti x y H1 fun z H2 => D.nx (σ.set i (some z)) H2) : tAug i te ti D σ H := ⟨x, e, h⟩
theorem w_forT {a : Addr} {xs : List V} {P : Addr → Prop} (t : H a = some (.tup xs)) (h : P a) : ∃ a', V.ref a = .ref a' ∧ (∃ xs, SqT K H a' xs) ∧ P a' := ⟨a, rfl, ⟨xs, SqT.of t⟩, h⟩
theorem w_forL {a : Addr} {xs : List V} {P : Addr → Prop} (t : H a = some (.lst xs)) (h : P a) : ∃ a', V.ref a = .ref a' ∧ (∃ xs, SqL K H a' xs) ∧ P a' := ⟨a, rfl, ⟨xs, SqL.of t⟩, h⟩
theorem w_inT {x : V} {p : Addr} {xs : List V} (a : H p = some (.tup xs)) (f : flatV x = true) (g : xs.all flatV = true) (h : Q (.bl (inV x xs)) H) : rIn K false x (.ref p) H Q := ⟨p, xs, rfl, .inr (SqT.of a), f, g, h⟩
theorem w_inL {x : V} {p : Addr} {xs : List V} (a : H p = some (.lst xs)) (f : flatV x = true) (g : xs.all flatV = true) (h : Q (.bl (inV x xs)) H) : rIn K false x (.ref p) H Q := ⟨p, xs, rfl, .inl (SqL.of a), f, g, h⟩
theorem w_iTup {tl : TE} {R : It → Hp → Prop} (h : tl σ H fun x H1 => ∃ a, x = .ref a ∧ (∃ xs, SqT K H1 a xs) ∧ R (Itt K a) H1) : iTup K tl σ H R := h
theorem w_iList {tl : TE} {R : It → Hp → Prop} (h : tl σ H fun x H1 => ∃ a, x = .ref a ∧ (∃ xs, SqL K H1 a xs) ∧ R (Itl K a) H1) : iList K tl σ H R := h
end
/-- a loop over what is walked -/
def kFor (J : It) (g : TG) (tb : TS) (D : Ends) (σ : St) (H : Hp) : Prop := tFor (fun _ H1 R => R J H1) g tb D σ H
theorem w_for {wi : TI} {g : TG} {tb : TS} {D : Ends} {σ : St} {H : Hp} (h : wi σ H fun J H1 => kFor J g tb D σ H1) : tFor wi g tb D σ H := h
section
variable {K : PySem.W.Frag} {a : Addr} {xs : List V} {g : TG} {tb : TS} {D : Ends} {σ : St} {H : Hp}
theorem k_forT (xs : List V) (Pv : Nat → St → Hp → Prop) (h0 : Pv 0 σ H) (hl : ∀ i σ H, i ≤ xs.length → Pv i σ H → SqT K H a xs)
    (hs : ∀ i x σ H, xs[i]? = some x → Pv i σ H → g x σ H fun σ2 H2 => tb { D with nx := Pv (i + 1), ct := Pv (i + 1), bk := D.nx } σ2 H2) (hd : ∀ σ H, Pv xs.length σ H → D.nx σ H) : kFor (Itt K a) g tb D σ H := for_tup Pv h0 hl hs hd
theorem k_forL (xs : List V) (Pv : Nat → St → Hp → Prop) (h0 : Pv 0 σ H) (hl : ∀ i σ H, i ≤ xs.length → Pv i σ H → SqL K H a xs)
    (hs : ∀ i x σ H, xs[i]? = some x → Pv i σ H → g x σ H fun σ2 H2 => tb { D with nx := Pv (i + 1), ct := Pv (i + 1), bk := D.nx } σ2 H2) (hd : ∀ σ H, Pv xs.length σ H → D.nx σ H) : kFor (Itl K a) g tb D σ H := for_list Pv h0 hl hs hd
theorem k_forR {lo : Int} {n : Nat} (Pv : Nat → St → Hp → Prop) (h0 : Pv 0 σ H)
    (hs : ∀ i σ H, i < n → Pv i σ H → g (.int (lo + i)) σ H fun σ2 H2 => tb { D with nx := Pv (i + 1), ct := Pv (i + 1), bk := D.nx } σ2 H2) (hd : ∀ σ H, Pv n σ H → D.nx σ H) : kFor (Itr lo n) g tb D σ H := for_range Pv h0 hs hd
end
section
variable {K : PySem.W.Frag} {σ σ' : St} {H : Hp} {Q : VK}
theorem pg_tupK {X : Cx} {es : List Expr} {k : Nat} {t : TGs} {n : Nat} {pos : Pos} (hK : X.K = K) (hc : X.calm = true) (h : PGs X es t)
    (hn : (assignEach es X.env).length = n := by rfl) (hst : (assignEach es X.env).findIdx? (·.1) = none := by rfl) : PG X (.Tuple es k pos) (gTup K n t) := by
  subst hK
  exact pg_tup hc h hn hst
theorem w_gTup {n : Nat} {t : TGs} {p : Addr} {xs : List V} {Q : St → Hp → Prop} (a : H p = some (.tup xs)) (e : xs.length = n) (h : t xs σ H Q) : gTup K n t (.ref p) σ H Q := ⟨p, xs, rfl, SqT.of a, e, h⟩
theorem w_gCons {t : TG} {u : TGs} {v : V} {r : List V} {Q : St → Hp → Prop} (h : t v σ H fun σ' H' => u r σ' H' Q) : gCons t u (v :: r) σ H Q := ⟨v, r, rfl, h⟩
theorem w_gNil {Q : St → Hp → Prop} (h : Q σ H) : gNil [] σ H Q := ⟨rfl, h⟩
/-- a list made of what is walked -/
def kLc (J : It) (g : TG) (tt : TT) (te : TE) (vs : List Nat) (σ : St) (H : Hp) (Q : VK) : Prop := tLc (fun _ H1 R => R J H1) g tt te vs σ H Q
theorem w_lc {wi : TI} {g : TG} {tt : TT} {te : TE} {vs : List Nat} (h : wi σ H fun J H1 => kLc J g tt te vs σ H1 Q) : tLc wi g tt te vs σ H Q := h
/-- the item that is made goes to the list -/
def kAcc (D : Addr) (y : V) (H : Hp) (P : Hp → Prop) : Prop := ∃ acc, H D = some (.lst acc) ∧ acc.length < sizeLine ∧ P (upd H D (.lst (acc ++ [y])))
theorem w_acc {D : Addr} {y : V} {P : Hp → Prop} {acc : List V} (a : H D = some (.lst acc)) (sz : acc.length < sizeLine) (h : ∀ H', Chg D (.lst acc) (.lst (acc ++ [y])) H H' → P H') : kAcc D y H P := ⟨acc, a, sz, h _ (Chg.mk' a)⟩
abbrev kTurn (g : TG) (tt : TT) (te : TE) (vs : List Nat) (σ : St) (D : Addr) (x : V) (H : Hp) (P : Hp → Prop) : Prop :=
  g x (wipe σ vs) H fun σ2 H2 => wipe σ2 vs = wipe σ vs ∧ tt σ2 H2 fun b H3 => if b = true then te σ2 H3 fun y H4 => kAcc D y H4 P else P H3
theorem k_lcR {lo : Int} {n : Nat} {g : TG} {tt : TT} {te : TE} {vs : List Nat} (Pv : Addr → Nat → Hp → Prop) (h0 : ∀ D H', New D (.lst []) H H' → Pv D 0 H')
    (hs : ∀ D, H D = none → ∀ i H2, i < n → Pv D i H2 → kTurn g tt te vs σ D (.int (lo + i)) H2 (Pv D (i + 1))) (hd : ∀ D, H D = none → ∀ H2, Pv D n H2 → Q (.ref D) H2) : kLc (Itr lo n) g tt te vs σ H Q :=
  fun D hD => lc_range (Pv D) (h0 D _ (New.mk' hD)) (hs D hD) (hd D hD)
theorem k_lcL {a : Addr} (xs : List V) {g : TG} {tt : TT} {te : TE} {vs : List Nat} (Pv : Addr → Nat → Hp → Prop) (h0 : ∀ D H', New D (.lst []) H H' → Pv D 0 H') (hl : ∀ D i H, i ≤ xs.length → Pv D i H → SqL K H a xs)
    (hs : ∀ D, H D = none → ∀ i x H2, xs[i]? = some x → Pv D i H2 → kTurn g tt te vs σ D x H2 (Pv D (i + 1))) (hd : ∀ D, H D = none → ∀ H2, Pv D xs.length H2 → Q (.ref D) H2) : kLc (Itl K a) g tt te vs σ H Q :=
  fun D hD => lc_list (Pv D) (h0 D _ (New.mk' hD)) (hl D) (hs D hD) (hd D hD)
theorem k_lcT {a : Addr} (xs : List V) {g : TG} {tt : TT} {te : TE} {vs : List Nat} (Pv : Addr → Nat → Hp → Prop) (h0 : ∀ D H', New D (.lst []) H H' → Pv D 0 H') (hl : ∀ D i H, i ≤ xs.length → Pv D i H → SqT K H a xs)
    (hs : ∀ D, H D = none → ∀ i x H2, xs[i]? = some x → Pv D i H2 → kTurn g tt te vs σ D x H2 (Pv D (i + 1))) (hd : ∀ D, H D = none → ∀ H2, Pv D xs.length H2 → Q (.ref D) H2) : kLc (Itt K a) g tt te vs σ H Q :=
  fun D hD => lc_tup (Pv D) (h0 D _ (New.mk' hD)) (hl D) (hs D hD) (hd D hD)
theorem w_wipe {a b : St} {vs : List Nat} {B : Prop} (e : wipe a vs = wipe b vs) (h : B) : wipe a vs = wipe b vs ∧ B := ⟨e, h⟩
theorem w_yes {Q : Bool → Hp → Prop} (h : Q true H) : tYes σ H Q := h
theorem w_rng1 {ta : TA} {R : It → Hp → Prop} (h : ta σ H fun vs H1 => ∃ j : Int, vs = [.int j] ∧ -(2 ^ 62) ≤ j ∧ j < 2 ^ 62 ∧ R (Itr 0 j.toNat) H1) : iRng1 ta σ H R := h
theorem w_rng2 {ta : TA} {R : It → Hp → Prop} (h : ta σ H fun vs H1 => ∃ i j : Int, vs = [.int i, .int j] ∧ (-(2 ^ 62) ≤ i ∧ i < 2 ^ 62 ∧ -(2 ^ 62) ≤ j ∧ j < 2 ^ 62) ∧ R (Itr i (j - i).toNat) H1) : iRng2 ta σ H R := h
theorem w_rng1a {a : Int} {P : Int → Prop} (h1 : -(2 ^ 62) ≤ a) (h2 : a < 2 ^ 62) (h : P a) : ∃ j : Int, [V.int a] = [.int j] ∧ -(2 ^ 62) ≤ j ∧ j < 2 ^ 62 ∧ P j := ⟨a, rfl, h1, h2, h⟩
theorem w_rng2a {a b : Int} {P : Int → Int → Prop} (h1 : -(2 ^ 62) ≤ a) (h2 : a < 2 ^ 62) (h3 : -(2 ^ 62) ≤ b) (h4 : b < 2 ^ 62) (h : P a b) : ∃ i j : Int, [V.int a, V.int b] = [.int i, .int j] ∧ (-(2 ^ 62) ≤ i ∧ i < 2 ^ 62 ∧ -(2 ^ 62) ≤ j ∧ j < 2 ^ 62) ∧ P i j := ⟨a, b, rfl, ⟨h1, h2, h3, h4⟩, h⟩
theorem w_cat {l b : Addr} {xs zs : List V} (h1 : H l = some (.lst xs)) (h2 : H b = some (.lst zs)) (sz : xs.length + zs.length ≤ sizeLine) (h : ∀ p H', New p (.lst (xs ++ zs)) H H' → Q (.ref p) H') : rCat (.ref l) (.ref b) H Q := ⟨l, b, xs, zs, rfl, rfl, h1, h2, sz, fun p hp => h p _ (New.mk' hp)⟩
theorem w_rep {l : Addr} {xs : List V} {k : Int} (h1 : H l = some (.lst xs)) (ha : -(2 ^ 63) ≤ k) (hb : k < 2 ^ 63) (sz : xs.length * k.toNat ≤ sizeLine) (h : ∀ p H', New p (.lst (List.replicate k.toNat xs).flatten) H H' → Q (.ref p) H') : rRep (.ref l) (.int k) H Q := ⟨l, k, xs, rfl, rfl, h1, ha, hb, sz, fun p hp => h p _ (New.mk' hp)⟩
end
section
variable {X : Cx} {K : PySem.W.Frag}
theorem cr_allK (h : X.K = K) (hc : X.calm = true) : CallR X (.builtin "all") (rAll K) := by
  subst h
  exact cr_all hc
theorem pi_zipAK {e e2 : Expr} {ta : TA} {p pos tpos : Pos} {elts : List Expr} {kk : Nat} (h : X.K = K) (hg : Gl X "zip") (hm : X.mg "zip" = none) (ha : PA X [e, e2] ta)
    (hs : starEach [e, e2] X.env = (false, eval e X.env) :: starEach [e2] X.env := by rfl) (hpl : (backTo pos (starEach [e2] X.env)).any (·.1) = false := by rfl) :
    PI X (.Tuple elts kk tpos) (.Call (.Name "zip" p) [e, e2] [] pos) (RZ.iZipA K ta) := by
  subst h
  exact RZ.pi_zipA hg hm ha hs hpl
end
theorem iteNF {c A B : Prop} [Decidable c] (hc : c) (h : B) : if (!decide c) = true then A else B := by
  rw [decide_eq_true hc]
  exact h
theorem iteNT {c A B : Prop} [Decidable c] (hc : ¬ c) (h : A) : if (!decide c) = true then A else B := by
  rw [decide_eq_false hc]
  exact h
theorem newOf {H H' : Hp} {p : Addr} {o : HO} (h : H p = none) (e : upd H p o = H') : New p o H H' := by
  subst e
  exact New.mk' h
section
variable {K : PySem.W.Frag} {σ σ' : St} {H : Hp} {Q : VK}
theorem k_lcZ {a b : Addr} (xs ys : List V) {g : TG} {tt : TT} {te : TE} {vs : List Nat} (hl : xs.length = ys.length) (Pv : Addr → Nat → Hp → Prop) (h0 : ∀ D H', New D (.lst []) H H' → Pv D 0 H') (hq : ∀ D i H, Pv D i H → SqT K H a xs ∧ SqT K H b ys)
    (hs : ∀ D, H D = none → ∀ i x y T H2 H3, xs[i]? = some x → ys[i]? = some y → Pv D i H2 → New T (.tup [x, y]) H2 H3 → kTurn g tt te vs σ D (.ref T) H3 (Pv D (i + 1))) (hd : ∀ D, H D = none → ∀ H2, Pv D xs.length H2 → Q (.ref D) H2) : kLc (RZ.ItzT K a b) g tt te vs σ H Q := by
  intro D hD
  refine ⟨fun i m H2 => m = xs.length - i ∧ i ≤ xs.length ∧ Pv D i H2, ⟨xs.length, by simp, Nat.zero_le _, h0 D _ (New.mk' hD)⟩, ?_⟩
  rintro i m H2 ⟨rfl, hi, p⟩
  obtain ⟨q1, q2⟩ := hq D i H2 p
  by_cases hlt : i < xs.length
  · refine .inr ⟨⟨xs, ys, xs[i], ys[i], q1, q2, by simp [hlt], by simp⟩, Pv D (i + 1), fun H' p' => ⟨xs.length - (i + 1), by omega, rfl, hlt, p'⟩, fun v H' y => ?_⟩
    obtain ⟨T, x, y', rfl, hT, rfl, hx, hy⟩ := y
    exact hs D hD i x y' T H2 _ (hx _ q1) (hy _ q2) p (New.mk' hT)
  · have e : i = xs.length := by omega
    subst e
    exact .inl ⟨⟨xs, ys, q1, q2, .inl (Nat.le_refl _)⟩, hd D hD H2 p⟩
theorem w_zipA {ta : TA} {R : It → Hp → Prop} (h : ta σ H fun vs H1 => ∃ a b xs ys, vs = [.ref a, .ref b] ∧ ((SqL K H1 a xs ∧ SqL K H1 b ys ∧ R (Itz K a b) H1) ∨ (SqT K H1 a xs ∧ SqT K H1 b ys ∧ R (RZ.ItzT K a b) H1))) : RZ.iZipA K ta σ H R := h
theorem w_zipT {a b : Addr} {xs ys : List V} {R : Addr → Addr → Prop} {P : Addr → Addr → Prop} (h1 : H a = some (.tup xs)) (h2 : H b = some (.tup ys)) (h : P a b) : ∃ a' b' xs' ys', [V.ref a, V.ref b] = [.ref a', .ref b'] ∧ ((SqL K H a' xs' ∧ SqL K H b' ys' ∧ R a' b') ∨ (SqT K H a' xs' ∧ SqT K H b' ys' ∧ P a' b')) :=
  ⟨a, b, xs, ys, rfl, .inr ⟨SqT.of h1, SqT.of h2, h⟩⟩
theorem w_meth {C : Addr} {m : Str} {sp : Sp} {dvs : List V} {E : XK} {ta : TE} {t : TA} (h : ta σ H fun x H1 => ∃ a dx fs, x = .ref a ∧ H1 a = some (.ins C dx fs) ∧ fs.lookup m = none ∧ t σ H1 fun vs H2 => sp (x :: (vs ++ dvs)) H2 Q E) : tMeth C m sp dvs E ta t σ H Q := h
theorem w_meth1 {p C dx : Addr} {fs : List (Str × V)} {m : Str} {B : Prop} (i : H p = some (.ins C dx fs)) (l : fs.lookup m = none) (h : B) : ∃ a' dx' fs', V.ref p = .ref a' ∧ H a' = some (.ins C dx' fs') ∧ fs'.lookup m = none ∧ B := ⟨p, dx, fs, rfl, i, l, h⟩
theorem w_tupOfL {p : Addr} {xs : List V} {P : List V → Prop} {R : Addr → Prop} (a : H p = some (.lst xs)) (h : P xs) : ∃ p' ys, [V.ref p] = [.ref p'] ∧ ((SqL K H p' ys ∧ P ys) ∨ (SqT K H p' ys ∧ R p')) := ⟨p, xs, rfl, .inl ⟨SqL.of a, h⟩⟩
theorem w_tupOfT {p : Addr} {xs : List V} {P : List V → Prop} {R : Addr → Prop} (a : H p = some (.tup xs)) (h : R p) : ∃ p' ys, [V.ref p] = [.ref p'] ∧ ((SqL K H p' ys ∧ P ys) ∨ (SqT K H p' ys ∧ R p')) := ⟨p, xs, rfl, .inr ⟨SqT.of a, h⟩⟩
theorem w_intB {b : Bool} {P : Int → Prop} {R : Bool → Prop} (h : R b) : (∃ i, [V.bl b] = [.int i] ∧ P i) ∨ ∃ k, [V.bl b] = [.bl k] ∧ R k := .inr ⟨b, rfl, h⟩
theorem w_intI {i : Int} {P : Int → Prop} {R : Bool → Prop} (h : P i) : (∃ i', [V.int i] = [.int i'] ∧ P i') ∨ ∃ k, [V.int i] = [.bl k] ∧ R k := .inl ⟨i, rfl, h⟩
theorem w_sl {r : V → Option Int → Option Int → Hp → VK → Prop} {te : TE} {tl th : TO} (h : te σ H fun x H1 => tl σ H1 fun l H2 => th σ H2 fun u H3 => r x l u H3 Q) : tSl r te tl th σ H Q := h
theorem w_part {t : TE} {Q : Option Int → Hp → Prop} (h : t σ H fun x H1 => ∃ i, x = .int i ∧ Q (some i) H1) : tPart t σ H Q := h
theorem w_part1 {i : Int} {P : Int → Prop} (h : P i) : ∃ i', V.int i = .int i' ∧ P i' := ⟨i, rfl, h⟩
theorem w_nopart {Q : Option Int → Hp → Prop} (h : Q none H) : tNoPart σ H Q := h
theorem w_slL {a : Addr} {xs : List V} {lo hi : Option Int} (i : H a = some (.lst xs)) (h : ∀ p H', New p (.lst (cutV xs lo hi)) H H' → Q (.ref p) H') : rSlL K (.ref a) lo hi H Q := ⟨a, xs, rfl, SqL.of i, fun p hp => h p _ (New.mk' hp)⟩
theorem w_isi {x : V} {n t : String} {b : Bool} (ty : TyX K H x (.type t)) (k : kitB t n = some b) (h : Q (.bl b) H) : rIsi K [x, .ty n] H Q := ⟨x, .ty n, _, _, b, rfl, .ty n, ty, kit_ty k, h⟩
theorem w_all {a : Addr} {bs : List Bool} (i : H a = some (.lst (bs.map V.bl))) (h : Q (.bl (bs.all id)) H) : rAll K [.ref a] H Q := ⟨a, bs, rfl, SqL.of i, h⟩
theorem w_gSub {to ti : TE} {t : TSet} {v : V} {Q : St → Hp → Prop} (h : to σ H fun o H1 => ti σ H1 fun i H2 => t o i v H2 fun H3 => Q σ H3) : gSub to ti t v σ H Q := h
/-- a field is stored -/
def kSet (K : PySem.W.Frag) (f : Str) (y x : V) (H : Hp) (P : Hp → Prop) : Prop := sFld K (tC x) (tC y) f ⟨fun _ H' => P H', fun _ _ => True, fun _ _ => True, fun _ _ => True⟩ [] H
theorem w_sfld {ta tv : TE} {f : Str} {D : Ends} (h : tv σ H fun y H1 => ta σ H1 fun x H2 => kSet K f y x H2 (fun H3 => D.nx σ H3)) : sFld K ta tv f D σ H := h
theorem w_kset {p C dx : Addr} {f : Str} {y : V} {fs : List (Str × V)} {P : Hp → Prop} (i : H p = some (.ins C dx fs)) (c : Cls K C) (n : NoAttr K C f) (l : fs.length < 1000) (h : ∀ H', Chg p (.ins C dx fs) (.ins C dx (putF f y fs)) H H' → P H') : kSet K f y (.ref p) H P := ⟨p, C, dx, fs, rfl, i, c, n, l, h _ (Chg.mk' i)⟩
/-- an instance is made -/
def kMake (C : Addr) (sp : Sp) (dvs : List V) (E : XK) (vs : List V) (H : Hp) (Q : VK) : Prop := tMake C sp dvs E (fun _ H1 R => R vs H1) [] H Q
theorem w_make {C : Addr} {sp : Sp} {dvs : List V} {E : XK} {t : TA} (h : t σ H fun vs H1 => kMake C sp dvs E vs H1 Q) : tMake C sp dvs E t σ H Q := h
end
section
variable {K : PySem.W.Frag} {σ σ' : St} {H : Hp} {Q : VK}
theorem w_isiO {p C D dx : Addr} {fs : List (Str × V)} {b : Bool} (i : H p = some (.ins C dx fs)) (cl : Cls K C) (ha : PySem.W.findIn K (.ref C) "__class__" = some (some (.builtin "object.__class__")))
    (hn : PySem.W.specialIn K (.builtin "object.__class__") "__get__" = some (some (.builtin "getset_descriptor.__get__"))) (htk : PySem.W.takesIn K (.builtin "object.__class__") = some true)
    (hm : PySem.W.mroIn K C (.type "object") = some true) (k : PySem.W.kitOne K (.ref C) (.ref D) = some b) (h : Q (.bl b) H) : rIsi K [.ref p, .ref D] H Q :=
  ⟨_, _, _, _, b, rfl, .own D, .base (.ins i cl ha hn htk hm), k, h⟩
theorem call_strK {X : Cx} : CallR X (.type "str") (fun xs H Q => (∃ i, xs = [.int i] ∧ i.natAbs.log2 < 1920 ∧ Q (.str (toString i)) H) ∨ ∃ a, xs = [.str a] ∧ Q (.str a) H) := by
  intro pins s σ H xs us Q I r h
  rcases h with h | h
  · exact call_str_int pins s σ H xs us Q I r h
  · exact SkE.call_str_str pins s σ H xs us Q I r h
theorem w_strI {i : Int} {P : Int → Prop} {R : Str → Prop} (l : i.natAbs.log2 < 1920) (h : P i) : (∃ i', [V.int i] = [.int i'] ∧ i'.natAbs.log2 < 1920 ∧ P i') ∨ ∃ a, [V.int i] = [.str a] ∧ R a := .inl ⟨i, rfl, l, h⟩
theorem w_strS {s : Str} {P : Int → Prop} {R : Str → Prop} (h : R s) : (∃ i', [V.str s] = [.int i'] ∧ i'.natAbs.log2 < 1920 ∧ P i') ∨ ∃ a, [V.str s] = [.str a] ∧ R a := .inr ⟨s, rfl, h⟩
theorem w_m1 {r : V → List V → Hp → VK → Prop} {to te : TE} (h : to σ H fun x H1 => (∃ a, x = .str a) ∧ te σ H1 fun y H2 => r x [y] H2 Q) : tM1 r to te σ H Q := h
theorem w_m1a {s : Str} {B : Prop} (h : B) : (∃ a, V.str s = .str a) ∧ B := ⟨⟨s, rfl⟩, h⟩
theorem w_join {s : Str} {p : Addr} {ys : List Str} {P : Str → List Str → Prop} (i : SqL K H p (ys.map V.str) ∨ SqT K H p (ys.map V.str)) (z : (ys.map (·.length)).sum + ys.length * s.length ≤ 16777216) (h : P s ys) :
    ∃ a p', ∃ ys' : List Str, V.str s = .str a ∧ [V.ref p] = [.ref p'] ∧ (SqL K H p' (ys'.map V.str) ∨ SqT K H p' (ys'.map V.str)) ∧ (ys'.map (·.length)).sum + ys'.length * a.length ≤ 16777216 ∧ P a ys' := ⟨s, p, ys, rfl, rfl, i, z, h⟩
theorem w_addS {x y : Str} {P : Str → Str → Prop} (z : x.length + y.length ≤ sizeLine) (h : P x y) : ∃ i j, V.str x = .str i ∧ V.str y = .str j ∧ i.length + j.length ≤ sizeLine ∧ P i j := ⟨x, y, rfl, rfl, z, h⟩
end
/-! ### one step of a reading, found by its head (type classes instead of a list of tries) -/
class Stp (G : Prop) (R : outParam Prop) : Prop where
  h : R → G
section
variable {K : PySem.W.Frag} {σ σ' : St} {H : Hp} {Q : VK}

instance (priority := low) {t u : TS} {D : Ends} : Stp (tSeq t u D σ H) (t { D with nx := u D } σ H) := ⟨fun h => w_seq h⟩
instance {t u : TS} {nx : St → Hp → Prop} {rt : V → Hp → Prop} {bk ct : St → Hp → Prop} : Stp (tSeq t u ⟨nx, rt, bk, ct⟩ σ H) (t ⟨u ⟨nx, rt, bk, ct⟩, rt, bk, ct⟩ σ H) := ⟨fun h => w_seq h⟩
instance (priority := low) {te : TE} {g : TG} {D : Ends} : Stp (tAsg te g D σ H) (te σ H fun x H1 => g x σ H1 D.nx) := ⟨fun h => w_asg h⟩
instance {te : TE} {g : TG} {nx : St → Hp → Prop} {rt : V → Hp → Prop} {bk ct : St → Hp → Prop} : Stp (tAsg te g ⟨nx, rt, bk, ct⟩ σ H) (te σ H fun x H1 => g x σ H1 nx) := ⟨fun h => w_asg h⟩
instance {v : V} : Stp (tC v σ H Q) (Q v H) := ⟨fun h => w_C h⟩
instance {ta : TE} {tr : TA} {Q : List V → Hp → Prop} : Stp (tCons ta tr σ H Q) (ta σ H fun x H1 => tr σ H1 fun xs H2 => Q (x :: xs) H2) := ⟨fun h => w_cons h⟩
instance {Q : List V → Hp → Prop} : Stp (tNil σ H Q) (Q [] H) := ⟨fun h => w_nil h⟩
instance {r : R2} {ta tb : TE} : Stp (tOp r ta tb σ H Q) (ta σ H fun x H1 => tb σ H1 fun y H2 => r x y H2 Q) := ⟨fun h => w_op h⟩
instance {g : Int → Int → V} {i j : Int} : Stp (rI0 g (.int i) (.int j) H Q) (Q (g i j) H) := ⟨fun h => w_rI0 h⟩
instance {sp : Sp} {dvs : List V} {E : XK} {t : TA} : Stp (tCall sp dvs E t σ H Q) (t σ H fun vs H1 => sp (vs ++ dvs) H1 Q E) := ⟨fun h => w_call h⟩
instance (priority := low) {c : TT} {t u : TS} {D : Ends} : Stp (tIfS c t u D σ H) (c σ H fun b H1 => if b = true then t D σ H1 else u D σ H1) := ⟨fun h => w_ifS h⟩
instance {c : TT} {t u : TS} {nx : St → Hp → Prop} {rt : V → Hp → Prop} {bk ct : St → Hp → Prop} : Stp (tIfS c t u ⟨nx, rt, bk, ct⟩ σ H) (c σ H fun b H1 => if b = true then t ⟨nx, rt, bk, ct⟩ σ H1 else u ⟨nx, rt, bk, ct⟩ σ H1) := ⟨fun h => w_ifS h⟩
instance {t : TA} : Stp (tTup t σ H Q) (t σ H fun xs H1 => kNew .tup xs H1 Q) := ⟨fun h => w_tup h⟩
instance {t : TA} : Stp (tLst t σ H Q) (t σ H fun xs H1 => kNew .lst xs H1 Q) := ⟨fun h => w_lst h⟩
instance {t : TE} {Q : Bool → Hp → Prop} : Stp (tTest t σ H Q) (t σ H fun x H1 => ∃ c, x = .bl c ∧ Q c H1) := ⟨fun h => w_test h⟩
instance {t : TE} {Q : Bool → Hp → Prop} : Stp (tB t σ H Q) (t σ H fun x H1 => ∃ c, x = .bl c ∧ Q c H1) := ⟨fun h => w_tB h⟩
instance {i j : Int} : Stp (rEq (.int i) (.int j) H Q) (Q (.bl (decide (i = j))) H) := ⟨fun h => w_rEqI h⟩
instance {i j : Str} : Stp (rEq (.str i) (.str j) H Q) (Q (.bl (decide (i = j))) H) := ⟨fun h => w_rEqS h⟩
instance {i j : Int} : Stp (rNe (.int i) (.int j) H Q) (Q (.bl (!decide (i = j))) H) := ⟨fun h => w_rNeI h⟩
instance {i j : Str} : Stp (rNe (.str i) (.str j) H Q) (Q (.bl (!decide (i = j))) H) := ⟨fun h => w_rNeS h⟩
instance {b : Bool} {P : Bool → Prop} : Stp (∃ c, V.bl b = .bl c ∧ P c) (P b) := ⟨fun h => w_blB h⟩
instance (priority := low) {D : Ends} : Stp (tNext D σ H) (D.nx σ H) := ⟨fun h => w_next h⟩
instance {nx : St → Hp → Prop} {rt : V → Hp → Prop} {bk ct : St → Hp → Prop} : Stp (tNext ⟨nx, rt, bk, ct⟩ σ H) (nx σ H) := ⟨fun h => w_next h⟩
instance {r : List V → Hp → VK → Prop} {t : TA} : Stp (tCB r t σ H Q) (t σ H fun vs H1 => r vs H1 Q) := ⟨fun h => w_cb h⟩
instance {T : String} {r : V → List V → Hp → VK → Prop} {to : TE} {t : TA} : Stp (tBM K T r to t σ H Q) (to σ H fun x H1 => tyV K T x H1 ∧ t σ H1 fun xs H2 => r x xs H2 Q) := ⟨fun h => w_bm h⟩
instance {T : String} {r : V → List V → Hp → VK → Prop} {to : TE} : Stp (tBM0 K T r to σ H Q) (to σ H fun x H1 => tyV K T x H1 ∧ r x [] H1 Q) := ⟨fun h => w_bm0 h⟩
instance (priority := low) {te : TE} {D : Ends} : Stp (tRet te D σ H) (te σ H D.rt) := ⟨fun h => w_ret h⟩
instance {te : TE} {nx : St → Hp → Prop} {rt : V → Hp → Prop} {bk ct : St → Hp → Prop} : Stp (tRet te ⟨nx, rt, bk, ct⟩ σ H) (te σ H rt) := ⟨fun h => w_ret h⟩
instance (priority := low) {D : Ends} : Stp (tRetN D σ H) (D.rt .non H) := ⟨fun h => w_retN h⟩
instance {nx : St → Hp → Prop} {rt : V → Hp → Prop} {bk ct : St → Hp → Prop} : Stp (tRetN ⟨nx, rt, bk, ct⟩ σ H) (rt .non H) := ⟨fun h => w_retN h⟩
instance (priority := low) {D : Ends} : Stp (tBreak D σ H) (D.bk σ H) := ⟨fun h => w_break h⟩
instance {nx : St → Hp → Prop} {rt : V → Hp → Prop} {bk ct : St → Hp → Prop} : Stp (tBreak ⟨nx, rt, bk, ct⟩ σ H) (bk σ H) := ⟨fun h => w_break h⟩
instance (priority := low) {D : Ends} : Stp (tCont D σ H) (D.ct σ H) := ⟨fun h => w_cont h⟩
instance {nx : St → Hp → Prop} {rt : V → Hp → Prop} {bk ct : St → Hp → Prop} : Stp (tCont ⟨nx, rt, bk, ct⟩ σ H) (ct σ H) := ⟨fun h => w_cont h⟩
instance (priority := low) {te : TE} {D : Ends} : Stp (tDrop te D σ H) (te σ H fun _ H1 => D.nx σ H1) := ⟨fun h => w_drop h⟩
instance {te : TE} {nx : St → Hp → Prop} {rt : V → Hp → Prop} {bk ct : St → Hp → Prop} : Stp (tDrop te ⟨nx, rt, bk, ct⟩ σ H) (te σ H fun _ H1 => nx σ H1) := ⟨fun h => w_drop h⟩
instance {c : TT} {t u : TE} : Stp (tIf c t u σ H Q) (c σ H fun b H1 => if b = true then t σ H1 Q else u σ H1 Q) := ⟨fun h => w_if h⟩
instance {t u : TT} {Q : Bool → Hp → Prop} : Stp (tAnd t u σ H Q) (t σ H fun c H1 => if c = true then u σ H1 Q else Q false H1) := ⟨fun h => w_and h⟩
instance {t u : TT} {Q : Bool → Hp → Prop} : Stp (tOr t u σ H Q) (t σ H fun c H1 => if c = true then Q true H1 else u σ H1 Q) := ⟨fun h => w_or h⟩
instance {t : TT} {Q : Bool → Hp → Prop} : Stp (tNot t σ H Q) (t σ H fun c H1 => Q (!c) H1) := ⟨fun h => w_not h⟩
instance {ta tb : TE} : Stp (tAndV ta tb σ H Q) (ta σ H fun x H1 => ∃ c, x = .bl c ∧ if c = true then tb σ H1 Q else Q (.bl false) H1) := ⟨fun h => w_andV h⟩
instance {ta tb : TE} : Stp (tOrV ta tb σ H Q) (ta σ H fun x H1 => ∃ c, x = .bl c ∧ if c = true then Q (.bl true) H1 else tb σ H1 Q) := ⟨fun h => w_orV h⟩
instance {ta : TE} : Stp (tNotV ta σ H Q) (ta σ H fun x H1 => ∃ c, x = .bl c ∧ Q (.bl (!c)) H1) := ⟨fun h => w_notV h⟩
instance {ta : TE} : Stp (tIsN ta σ H Q) (ta σ H fun x H1 => Q (.bl (decide (x = .non))) H1) := ⟨fun h => w_isN h⟩
instance {ta : TE} : Stp (tNotN ta σ H Q) (ta σ H fun x H1 => Q (.bl (!decide (x = .non))) H1) := ⟨fun h => w_notN h⟩
instance {r : V → Hp → VK → Prop} {ta : TE} : Stp (tUn r ta σ H Q) (ta σ H fun x H1 => r x H1 Q) := ⟨fun h => w_un h⟩
instance {g : Int → V} {i : Int} : Stp (rU g (.int i) H Q) (Q (g i) H) := ⟨fun h => w_rU h⟩
instance {ta : TE} {f : Str} : Stp (tFld K ta f σ H Q) (ta σ H fun x H1 => ∃ a C dx fs v, x = .ref a ∧ H1 a = some (.ins C dx fs) ∧ Cls K C ∧ NoAttr K C f ∧ fs.lookup f = some v ∧ Q v H1) := ⟨fun h => w_fld h⟩
instance (priority := low) {i j : Nat} {ta : TA} {D : Ends} : Stp (tPar i j ta D σ H) (ta σ H fun vs H1 => ∃ v w, vs = [v, w] ∧ D.nx ((σ.set i (some v)).set j (some w)) H1) := ⟨fun h => w_par h⟩
instance {i j : Nat} {ta : TA} {nx : St → Hp → Prop} {rt : V → Hp → Prop} {bk ct : St → Hp → Prop} : Stp (tPar i j ta ⟨nx, rt, bk, ct⟩ σ H) (ta σ H fun vs H1 => ∃ v w, vs = [v, w] ∧ nx ((σ.set i (some v)).set j (some w)) H1) := ⟨fun h => w_par h⟩
instance {v w : V} {P : V → V → Prop} : Stp (∃ v' w', [v, w] = [v', w'] ∧ P v' w') (P v w) := ⟨fun h => w_par1 h⟩
instance (priority := low) {wi : TI} {g : TG} {tb : TS} {D : Ends} {σ : St} {H : Hp} : Stp (tFor wi g tb D σ H) (wi σ H fun J H1 => kFor J g tb D σ H1) := ⟨fun h => w_for h⟩
instance {wi : TI} {g : TG} {tb : TS} {nx : St → Hp → Prop} {rt : V → Hp → Prop} {bk ct : St → Hp → Prop} {σ : St} {H : Hp} : Stp (tFor wi g tb ⟨nx, rt, bk, ct⟩ σ H) (wi σ H fun J H1 => kFor J g tb ⟨nx, rt, bk, ct⟩ σ H1) := ⟨fun h => w_for h⟩
instance {tl : TE} {R : It → Hp → Prop} : Stp (iTup K tl σ H R) (tl σ H fun x H1 => ∃ a, x = .ref a ∧ (∃ xs, SqT K H1 a xs) ∧ R (Itt K a) H1) := ⟨fun h => w_iTup h⟩
instance {tl : TE} {R : It → Hp → Prop} : Stp (iList K tl σ H R) (tl σ H fun x H1 => ∃ a, x = .ref a ∧ (∃ xs, SqL K H1 a xs) ∧ R (Itl K a) H1) := ⟨fun h => w_iList h⟩
instance {wi : TI} {g : TG} {tt : TT} {te : TE} {vs : List Nat} : Stp (tLc wi g tt te vs σ H Q) (wi σ H fun J H1 => kLc J g tt te vs σ H1 Q) := ⟨fun h => w_lc h⟩
instance {Q : Bool → Hp → Prop} : Stp (tYes σ H Q) (Q true H) := ⟨fun h => w_yes h⟩
instance {ta : TA} {R : It → Hp → Prop} : Stp (iRng1 ta σ H R) (ta σ H fun vs H1 => ∃ j : Int, vs = [.int j] ∧ -(2 ^ 62) ≤ j ∧ j < 2 ^ 62 ∧ R (Itr 0 j.toNat) H1) := ⟨fun h => w_rng1 h⟩
instance {ta : TA} {R : It → Hp → Prop} : Stp (iRng2 ta σ H R) (ta σ H fun vs H1 => ∃ i j : Int, vs = [.int i, .int j] ∧ (-(2 ^ 62) ≤ i ∧ i < 2 ^ 62 ∧ -(2 ^ 62) ≤ j ∧ j < 2 ^ 62) ∧ R (Itr i (j - i).toNat) H1) := ⟨fun h => w_rng2 h⟩
instance {t : TG} {u : TGs} {v : V} {r : List V} {Q : St → Hp → Prop} : Stp (gCons t u (v :: r) σ H Q) (t v σ H fun σ' H' => u r σ' H' Q) := ⟨fun h => w_gCons h⟩
instance {Q : St → Hp → Prop} : Stp (gNil [] σ H Q) (Q σ H) := ⟨fun h => w_gNil h⟩
instance {ta : TA} {R : It → Hp → Prop} : Stp (RZ.iZipA K ta σ H R) (ta σ H fun vs H1 => ∃ a b xs ys, vs = [.ref a, .ref b] ∧ ((SqL K H1 a xs ∧ SqL K H1 b ys ∧ R (Itz K a b) H1) ∨ (SqT K H1 a xs ∧ SqT K H1 b ys ∧ R (RZ.ItzT K a b) H1))) := ⟨fun h => w_zipA h⟩
instance {C : Addr} {m : Str} {sp : Sp} {dvs : List V} {E : XK} {ta : TE} {t : TA} : Stp (tMeth C m sp dvs E ta t σ H Q) (ta σ H fun x H1 => ∃ a dx fs, x = .ref a ∧ H1 a = some (.ins C dx fs) ∧ fs.lookup m = none ∧ t σ H1 fun vs H2 => sp (x :: (vs ++ dvs)) H2 Q E) := ⟨fun h => w_meth h⟩
instance {b : Bool} {P : Int → Prop} {R : Bool → Prop} : Stp ((∃ i, [V.bl b] = [.int i] ∧ P i) ∨ ∃ k, [V.bl b] = [.bl k] ∧ R k) (R b) := ⟨fun h => w_intB h⟩
instance {i : Int} {P : Int → Prop} {R : Bool → Prop} : Stp ((∃ i', [V.int i] = [.int i'] ∧ P i') ∨ ∃ k, [V.int i] = [.bl k] ∧ R k) (P i) := ⟨fun h => w_intI h⟩
instance {r : V → Option Int → Option Int → Hp → VK → Prop} {te : TE} {tl th : TO} : Stp (tSl r te tl th σ H Q) (te σ H fun x H1 => tl σ H1 fun l H2 => th σ H2 fun u H3 => r x l u H3 Q) := ⟨fun h => w_sl h⟩
instance {t : TE} {Q : Option Int → Hp → Prop} : Stp (tPart t σ H Q) (t σ H fun x H1 => ∃ i, x = .int i ∧ Q (some i) H1) := ⟨fun h => w_part h⟩
instance {i : Int} {P : Int → Prop} : Stp (∃ i', V.int i = .int i' ∧ P i') (P i) := ⟨fun h => w_part1 h⟩
instance {Q : Option Int → Hp → Prop} : Stp (tNoPart σ H Q) (Q none H) := ⟨fun h => w_nopart h⟩
instance (priority := low) {ta tv : TE} {f : Str} {D : Ends} : Stp (sFld K ta tv f D σ H) (tv σ H fun y H1 => ta σ H1 fun x H2 => kSet K f y x H2 (fun H3 => D.nx σ H3)) := ⟨fun h => w_sfld h⟩
instance {ta tv : TE} {f : Str} {nx : St → Hp → Prop} {rt : V → Hp → Prop} {bk ct : St → Hp → Prop} : Stp (sFld K ta tv f ⟨nx, rt, bk, ct⟩ σ H) (tv σ H fun y H1 => ta σ H1 fun x H2 => kSet K f y x H2 (fun H3 => nx σ H3)) := ⟨fun h => w_sfld h⟩
instance {C : Addr} {sp : Sp} {dvs : List V} {E : XK} {t : TA} : Stp (tMake C sp dvs E t σ H Q) (t σ H fun vs H1 => kMake C sp dvs E vs H1 Q) := ⟨fun h => w_make h⟩
instance {s : Str} {P : Int → Prop} {R : Str → Prop} : Stp ((∃ i', [V.str s] = [.int i'] ∧ i'.natAbs.log2 < 1920 ∧ P i') ∨ ∃ a, [V.str s] = [.str a] ∧ R a) (R s) := ⟨fun h => w_strS h⟩
instance {r : V → List V → Hp → VK → Prop} {to te : TE} : Stp (tM1 r to te σ H Q) (to σ H fun x H1 => (∃ a, x = .str a) ∧ te σ H1 fun y H2 => r x [y] H2 Q) := ⟨fun h => w_m1 h⟩
instance {s : Str} {B : Prop} : Stp ((∃ a, V.str s = .str a) ∧ B) (B) := ⟨fun h => w_m1a h⟩
instance {to ti : TE} {t : TSet} {v : V} {Q : St → Hp → Prop} : Stp (gSub to ti t v σ H Q) (to σ H fun o H1 => ti σ H1 fun i H2 => t o i v H2 fun H3 => Q σ H3) := ⟨fun h => w_gSub h⟩
theorem stp {G R : Prop} [s : Stp G R] (h : R) : G := s.h h
end
/-! ### a module's constants: numbers, texts, tuples of texts -/
theorem pe_globI {X : Cx} {x : Str} {v : Int} {pos : Pos} (hg : Gl X x) (hm : ∃ t, X.mg x = some (.int v t)) (hd : (x == ("__debug__" : Str)) = false := by decide) : PE X (.Name x pos) (tC (.int v)) := by
  obtain ⟨t, hm⟩ := hm
  exact pe_glob hg hm ⟨t, rfl⟩ hd
theorem pe_globS {X : Cx} {x : Str} {v : Str} {pos : Pos} (hg : Gl X x) (hm : ∃ t, X.mg x = some (.str v t)) (hd : (x == ("__debug__" : Str)) = false := by decide) : PE X (.Name x pos) (tC (.str v)) := by
  obtain ⟨t, hm⟩ := hm
  exact pe_glob hg hm ⟨t, rfl⟩ hd
/-- a tuple of the module -/
def tGT (K : PySem.W.Frag) (xs : List V) : TE := fun _ H Q => ∀ a : Addr, (∀ H' : Hp, SqT K H' a xs) → Q (.ref a) H
theorem pe_globT {X : Cx} {K : PySem.W.Frag} {x : Str} {xs : List V} {pos : Pos} (hg : Gl X x) (hm : ∃ a, X.mg x = some (.ref a) ∧ ∀ H : Hp, SqT K H a xs) (hd : (x == ("__debug__" : Str)) = false := by decide) : PE X (.Name x pos) (tGT K xs) := by
  obtain ⟨a, hm, hs⟩ := hm
  exact ⟨fun _ _ _ H _ I h => ld_glob I hg hm ⟨.ref a, H, I, rfl, h a hs⟩ hd⟩
local macro_rules | `(tactic| walk_at "ne") => `(tactic| first
  | assumption
  | exact Ne.symm (by assumption)
  | exact New.ne (by assumption) (by walk_at "look1")
  | exact Ne.symm (New.ne (by assumption) (by walk_at "look1")))
local macro_rules | `(tactic| walk_at "ne1") => `(tactic| first
  | assumption
  | exact Ne.symm (by assumption)
  | exact New.ne (by assumption) (by walk_at "look2")
  | exact Ne.symm (New.ne (by assumption) (by walk_at "look2")))
local macro_rules | `(tactic| walk_at "ne2") => `(tactic| first
  | assumption
  | exact Ne.symm (by assumption)
  | exact New.ne (by assumption) (by walk_at "look3")
  | exact Ne.symm (New.ne (by assumption) (by walk_at "look3")))
local macro_rules | `(tactic| walk_at "ne3") => `(tactic| first
  | assumption
  | exact Ne.symm (by assumption)
  | exact New.ne (by assumption) (by walk_at "look4")
  | exact Ne.symm (New.ne (by assumption) (by walk_at "look4")))
local macro_rules | `(tactic| walk_at "ne4") => `(tactic| first
  | assumption
  | exact Ne.symm (by assumption)
  | exact New.ne (by assumption) (by walk_at "look5")
  | exact Ne.symm (New.ne (by assumption) (by walk_at "look5")))
local macro_rules | `(tactic| walk_at "ne5") => `(tactic| first
  | assumption
  | exact Ne.symm (by assumption)
  | exact New.ne (by assumption) (by walk_at "look6")
  | exact Ne.symm (New.ne (by assumption) (by walk_at "look6")))
local macro_rules | `(tactic| walk_at "ne6") => `(tactic| first
  | assumption
  | exact Ne.symm (by assumption)
  | exact New.ne (by assumption) (by walk_at "look7")
  | exact Ne.symm (New.ne (by assumption) (by walk_at "look7")))
local macro_rules | `(tactic| walk_at "ne7") => `(tactic| first
  | assumption
  | exact Ne.symm (by assumption)
  | exact New.ne (by assumption) (by walk_at "look8")
  | exact Ne.symm (New.ne (by assumption) (by walk_at "look8")))
local macro_rules | `(tactic| walk_at "ne8") => `(tactic| first
  | assumption
  | exact Ne.symm (by assumption)
  | exact New.ne (by assumption) (by walk_at "look9")
  | exact Ne.symm (New.ne (by assumption) (by walk_at "look9")))
local macro_rules | `(tactic| walk_at "ne9") => `(tactic| first
  | assumption
  | exact Ne.symm (by assumption)
  | exact New.ne (by assumption) (by walk_at "look10")
  | exact Ne.symm (New.ne (by assumption) (by walk_at "look10")))
local macro_rules | `(tactic| walk_at "ne10") => `(tactic| first
  | assumption
  | exact Ne.symm (by assumption)
  | exact New.ne (by assumption) (by walk_at "look11")
  | exact Ne.symm (New.ne (by assumption) (by walk_at "look11")))
local macro_rules | `(tactic| walk_at "ne11") => `(tactic| first
  | assumption
  | exact Ne.symm (by assumption)
  | exact New.ne (by assumption) (by walk_at "look12")
  | exact Ne.symm (New.ne (by assumption) (by walk_at "look12")))
local macro_rules | `(tactic| walk_at "ne12") => `(tactic| first
  | assumption
  | exact Ne.symm (by assumption)
  | exact New.ne (by assumption) (by walk_at "look13")
  | exact Ne.symm (New.ne (by assumption) (by walk_at "look13")))
local macro_rules | `(tactic| walk_at "ne13") => `(tactic| first
  | assumption
  | exact Ne.symm (by assumption)
  | exact New.ne (by assumption) (by walk_at "look14")
  | exact Ne.symm (New.ne (by assumption) (by walk_at "look14")))
local macro_rules | `(tactic| walk_at "ne14") => `(tactic| first
  | assumption
  | exact Ne.symm (by assumption)
  | exact New.ne (by assumption) (by walk_at "look15")
  | exact Ne.symm (New.ne (by assumption) (by walk_at "look15")))
local macro_rules | `(tactic| walk_at "ne15") => `(tactic| first
  | assumption
  | exact Ne.symm (by assumption)
  | exact New.ne (by assumption) (by walk_at "look16")
  | exact Ne.symm (New.ne (by assumption) (by walk_at "look16")))
local macro_rules | `(tactic| walk_at "ne16") => `(tactic| first
  | assumption
  | exact Ne.symm (by assumption)
  | exact New.ne (by assumption) (by walk_at "look17")
  | exact Ne.symm (New.ne (by assumption) (by walk_at "look17")))
local macro_rules | `(tactic| walk_at "ne17") => `(tactic| first
  | assumption
  | exact Ne.symm (by assumption)
  | exact New.ne (by assumption) (by walk_at "look18")
  | exact Ne.symm (New.ne (by assumption) (by walk_at "look18")))
local macro_rules | `(tactic| walk_at "ne18") => `(tactic| first
  | assumption
  | exact Ne.symm (by assumption)
  | exact New.ne (by assumption) (by walk_at "look19")
  | exact Ne.symm (New.ne (by assumption) (by walk_at "look19")))
local macro_rules | `(tactic| walk_at "ne19") => `(tactic| first
  | assumption
  | exact Ne.symm (by assumption)
  | exact New.ne (by assumption) (by walk_at "look20")
  | exact Ne.symm (New.ne (by assumption) (by walk_at "look20")))
local macro_rules | `(tactic| walk_at "ne20") => `(tactic| first
  | assumption
  | exact Ne.symm (by assumption)
  | exact New.ne (by assumption) (by walk_at "look21")
  | exact Ne.symm (New.ne (by assumption) (by walk_at "look21")))
local macro_rules | `(tactic| walk_at "ne21") => `(tactic| first
  | assumption
  | exact Ne.symm (by assumption)
  | exact New.ne (by assumption) (by walk_at "look22")
  | exact Ne.symm (New.ne (by assumption) (by walk_at "look22")))
local macro_rules | `(tactic| walk_at "ne22") => `(tactic| first
  | assumption
  | exact Ne.symm (by assumption)
  | exact New.ne (by assumption) (by walk_at "look23")
  | exact Ne.symm (New.ne (by assumption) (by walk_at "look23")))
local macro_rules | `(tactic| walk_at "ne23") => `(tactic| first
  | assumption
  | exact Ne.symm (by assumption)
  | exact New.ne (by assumption) (by walk_at "look24")
  | exact Ne.symm (New.ne (by assumption) (by walk_at "look24")))
local macro_rules | `(tactic| walk_at "ne24") => `(tactic| assumption)
local macro_rules | `(tactic| walk_at "look") => `(tactic| first
  | assumption
  | exact New.at_ (by assumption)
  | exact Chg.at_ (by assumption)
  | exact New.get (by assumption) (by walk_at "look1")
  | exact Chg.getK (by assumption) (by walk_at "look1") (by exact rfl)
  | exact Chg.get (by assumption) (by walk_at "look1") (by walk_at "ne1")
  | exact sameGet (by assumption) (by walk_at "look1")
  | exact sbutGet (by assumption) (by walk_at "look1") (by walk_at "ne1")
  | exact keepGet (by assumption) (by walk_at "look1") trivial)
local macro_rules | `(tactic| walk_at "look1") => `(tactic| first
  | assumption
  | exact New.at_ (by assumption)
  | exact Chg.at_ (by assumption)
  | exact New.get (by assumption) (by walk_at "look2")
  | exact Chg.getK (by assumption) (by walk_at "look2") (by exact rfl)
  | exact Chg.get (by assumption) (by walk_at "look2") (by walk_at "ne2")
  | exact sameGet (by assumption) (by walk_at "look2")
  | exact sbutGet (by assumption) (by walk_at "look2") (by walk_at "ne2")
  | exact keepGet (by assumption) (by walk_at "look2") trivial)
local macro_rules | `(tactic| walk_at "look2") => `(tactic| first
  | assumption
  | exact New.at_ (by assumption)
  | exact Chg.at_ (by assumption)
  | exact New.get (by assumption) (by walk_at "look3")
  | exact Chg.getK (by assumption) (by walk_at "look3") (by exact rfl)
  | exact Chg.get (by assumption) (by walk_at "look3") (by walk_at "ne3")
  | exact sameGet (by assumption) (by walk_at "look3")
  | exact sbutGet (by assumption) (by walk_at "look3") (by walk_at "ne3")
  | exact keepGet (by assumption) (by walk_at "look3") trivial)
local macro_rules | `(tactic| walk_at "look3") => `(tactic| first
  | assumption
  | exact New.at_ (by assumption)
  | exact Chg.at_ (by assumption)
  | exact New.get (by assumption) (by walk_at "look4")
  | exact Chg.getK (by assumption) (by walk_at "look4") (by exact rfl)
  | exact Chg.get (by assumption) (by walk_at "look4") (by walk_at "ne4")
  | exact sameGet (by assumption) (by walk_at "look4")
  | exact sbutGet (by assumption) (by walk_at "look4") (by walk_at "ne4")
  | exact keepGet (by assumption) (by walk_at "look4") trivial)
local macro_rules | `(tactic| walk_at "look4") => `(tactic| first
  | assumption
  | exact New.at_ (by assumption)
  | exact Chg.at_ (by assumption)
  | exact New.get (by assumption) (by walk_at "look5")
  | exact Chg.getK (by assumption) (by walk_at "look5") (by exact rfl)
  | exact Chg.get (by assumption) (by walk_at "look5") (by walk_at "ne5")
  | exact sameGet (by assumption) (by walk_at "look5")
  | exact sbutGet (by assumption) (by walk_at "look5") (by walk_at "ne5")
  | exact keepGet (by assumption) (by walk_at "look5") trivial)
local macro_rules | `(tactic| walk_at "look5") => `(tactic| first
  | assumption
  | exact New.at_ (by assumption)
  | exact Chg.at_ (by assumption)
  | exact New.get (by assumption) (by walk_at "look6")
  | exact Chg.getK (by assumption) (by walk_at "look6") (by exact rfl)
  | exact Chg.get (by assumption) (by walk_at "look6") (by walk_at "ne6")
  | exact sameGet (by assumption) (by walk_at "look6")
  | exact sbutGet (by assumption) (by walk_at "look6") (by walk_at "ne6")
  | exact keepGet (by assumption) (by walk_at "look6") trivial)
local macro_rules | `(tactic| walk_at "look6") => `(tactic| first
  | assumption
  | exact New.at_ (by assumption)
  | exact Chg.at_ (by assumption)
  | exact New.get (by assumption) (by walk_at "look7")
  | exact Chg.getK (by assumption) (by walk_at "look7") (by exact rfl)
  | exact Chg.get (by assumption) (by walk_at "look7") (by walk_at "ne7")
  | exact sameGet (by assumption) (by walk_at "look7")
  | exact sbutGet (by assumption) (by walk_at "look7") (by walk_at "ne7")
  | exact keepGet (by assumption) (by walk_at "look7") trivial)
local macro_rules | `(tactic| walk_at "look7") => `(tactic| first
  | assumption
  | exact New.at_ (by assumption)
  | exact Chg.at_ (by assumption)
  | exact New.get (by assumption) (by walk_at "look8")
  | exact Chg.getK (by assumption) (by walk_at "look8") (by exact rfl)
  | exact Chg.get (by assumption) (by walk_at "look8") (by walk_at "ne8")
  | exact sameGet (by assumption) (by walk_at "look8")
  | exact sbutGet (by assumption) (by walk_at "look8") (by walk_at "ne8")
  | exact keepGet (by assumption) (by walk_at "look8") trivial)
local macro_rules | `(tactic| walk_at "look8") => `(tactic| first
  | assumption
  | exact New.at_ (by assumption)
  | exact Chg.at_ (by assumption)
  | exact New.get (by assumption) (by walk_at "look9")
  | exact Chg.getK (by assumption) (by walk_at "look9") (by exact rfl)
  | exact Chg.get (by assumption) (by walk_at "look9") (by walk_at "ne9")
  | exact sameGet (by assumption) (by walk_at "look9")
  | exact sbutGet (by assumption) (by walk_at "look9") (by walk_at "ne9")
  | exact keepGet (by assumption) (by walk_at "look9") trivial)
local macro_rules | `(tactic| walk_at "look9") => `(tactic| first
  | assumption
  | exact New.at_ (by assumption)
  | exact Chg.at_ (by assumption)
  | exact New.get (by assumption) (by walk_at "look10")
  | exact Chg.getK (by assumption) (by walk_at "look10") (by exact rfl)
  | exact Chg.get (by assumption) (by walk_at "look10") (by walk_at "ne10")
  | exact sameGet (by assumption) (by walk_at "look10")
  | exact sbutGet (by assumption) (by walk_at "look10") (by walk_at "ne10")
  | exact keepGet (by assumption) (by walk_at "look10") trivial)
local macro_rules | `(tactic| walk_at "look10") => `(tactic| first
  | assumption
  | exact New.at_ (by assumption)
  | exact Chg.at_ (by assumption)
  | exact New.get (by assumption) (by walk_at "look11")
  | exact Chg.getK (by assumption) (by walk_at "look11") (by exact rfl)
  | exact Chg.get (by assumption) (by walk_at "look11") (by walk_at "ne11")
  | exact sameGet (by assumption) (by walk_at "look11")
  | exact sbutGet (by assumption) (by walk_at "look11") (by walk_at "ne11")
  | exact keepGet (by assumption) (by walk_at "look11") trivial)
local macro_rules | `(tactic| walk_at "look11") => `(tactic| first
  | assumption
  | exact New.at_ (by assumption)
  | exact Chg.at_ (by assumption)
  | exact New.get (by assumption) (by walk_at "look12")
  | exact Chg.getK (by assumption) (by walk_at "look12") (by exact rfl)
  | exact Chg.get (by assumption) (by walk_at "look12") (by walk_at "ne12")
  | exact sameGet (by assumption) (by walk_at "look12")
  | exact sbutGet (by assumption) (by walk_at "look12") (by walk_at "ne12")
  | exact keepGet (by assumption) (by walk_at "look12") trivial)
local macro_rules | `(tactic| walk_at "look12") => `(tactic| first
  | assumption
  | exact New.at_ (by assumption)
  | exact Chg.at_ (by assumption)
  | exact New.get (by assumption) (by walk_at "look13")
  | exact Chg.getK (by assumption) (by walk_at "look13") (by exact rfl)
  | exact Chg.get (by assumption) (by walk_at "look13") (by walk_at "ne13")
  | exact sameGet (by assumption) (by walk_at "look13")
  | exact sbutGet (by assumption) (by walk_at "look13") (by walk_at "ne13")
  | exact keepGet (by assumption) (by walk_at "look13") trivial)
local macro_rules | `(tactic| walk_at "look13") => `(tactic| first
  | assumption
  | exact New.at_ (by assumption)
  | exact Chg.at_ (by assumption)
  | exact New.get (by assumption) (by walk_at "look14")
  | exact Chg.getK (by assumption) (by walk_at "look14") (by exact rfl)
  | exact Chg.get (by assumption) (by walk_at "look14") (by walk_at "ne14")
  | exact sameGet (by assumption) (by walk_at "look14")
  | exact sbutGet (by assumption) (by walk_at "look14") (by walk_at "ne14")
  | exact keepGet (by assumption) (by walk_at "look14") trivial)
local macro_rules | `(tactic| walk_at "look14") => `(tactic| first
  | assumption
  | exact New.at_ (by assumption)
  | exact Chg.at_ (by assumption)
  | exact New.get (by assumption) (by walk_at "look15")
  | exact Chg.getK (by assumption) (by walk_at "look15") (by exact rfl)
  | exact Chg.get (by assumption) (by walk_at "look15") (by walk_at "ne15")
  | exact sameGet (by assumption) (by walk_at "look15")
  | exact sbutGet (by assumption) (by walk_at "look15") (by walk_at "ne15")
  | exact keepGet (by assumption) (by walk_at "look15") trivial)
local macro_rules | `(tactic| walk_at "look15") => `(tactic| first
  | assumption
  | exact New.at_ (by assumption)
  | exact Chg.at_ (by assumption)
  | exact New.get (by assumption) (by walk_at "look16")
  | exact Chg.getK (by assumption) (by walk_at "look16") (by exact rfl)
  | exact Chg.get (by assumption) (by walk_at "look16") (by walk_at "ne16")
  | exact sameGet (by assumption) (by walk_at "look16")
  | exact sbutGet (by assumption) (by walk_at "look16") (by walk_at "ne16")
  | exact keepGet (by assumption) (by walk_at "look16") trivial)
local macro_rules | `(tactic| walk_at "look16") => `(tactic| first
  | assumption
  | exact New.at_ (by assumption)
  | exact Chg.at_ (by assumption)
  | exact New.get (by assumption) (by walk_at "look17")
  | exact Chg.getK (by assumption) (by walk_at "look17") (by exact rfl)
  | exact Chg.get (by assumption) (by walk_at "look17") (by walk_at "ne17")
  | exact sameGet (by assumption) (by walk_at "look17")
  | exact sbutGet (by assumption) (by walk_at "look17") (by walk_at "ne17")
  | exact keepGet (by assumption) (by walk_at "look17") trivial)
local macro_rules | `(tactic| walk_at "look17") => `(tactic| first
  | assumption
  | exact New.at_ (by assumption)
  | exact Chg.at_ (by assumption)
  | exact New.get (by assumption) (by walk_at "look18")
  | exact Chg.getK (by assumption) (by walk_at "look18") (by exact rfl)
  | exact Chg.get (by assumption) (by walk_at "look18") (by walk_at "ne18")
  | exact sameGet (by assumption) (by walk_at "look18")
  | exact sbutGet (by assumption) (by walk_at "look18") (by walk_at "ne18")
  | exact keepGet (by assumption) (by walk_at "look18") trivial)
local macro_rules | `(tactic| walk_at "look18") => `(tactic| first
  | assumption
  | exact New.at_ (by assumption)
  | exact Chg.at_ (by assumption)
  | exact New.get (by assumption) (by walk_at "look19")
  | exact Chg.getK (by assumption) (by walk_at "look19") (by exact rfl)
  | exact Chg.get (by assumption) (by walk_at "look19") (by walk_at "ne19")
  | exact sameGet (by assumption) (by walk_at "look19")
  | exact sbutGet (by assumption) (by walk_at "look19") (by walk_at "ne19")
  | exact keepGet (by assumption) (by walk_at "look19") trivial)
local macro_rules | `(tactic| walk_at "look19") => `(tactic| first
  | assumption
  | exact New.at_ (by assumption)
  | exact Chg.at_ (by assumption)
  | exact New.get (by assumption) (by walk_at "look20")
  | exact Chg.getK (by assumption) (by walk_at "look20") (by exact rfl)
  | exact Chg.get (by assumption) (by walk_at "look20") (by walk_at "ne20")
  | exact sameGet (by assumption) (by walk_at "look20")
  | exact sbutGet (by assumption) (by walk_at "look20") (by walk_at "ne20")
  | exact keepGet (by assumption) (by walk_at "look20") trivial)
local macro_rules | `(tactic| walk_at "look20") => `(tactic| first
  | assumption
  | exact New.at_ (by assumption)
  | exact Chg.at_ (by assumption)
  | exact New.get (by assumption) (by walk_at "look21")
  | exact Chg.getK (by assumption) (by walk_at "look21") (by exact rfl)
  | exact Chg.get (by assumption) (by walk_at "look21") (by walk_at "ne21")
  | exact sameGet (by assumption) (by walk_at "look21")
  | exact sbutGet (by assumption) (by walk_at "look21") (by walk_at "ne21")
  | exact keepGet (by assumption) (by walk_at "look21") trivial)
local macro_rules | `(tactic| walk_at "look21") => `(tactic| first
  | assumption
  | exact New.at_ (by assumption)
  | exact Chg.at_ (by assumption)
  | exact New.get (by assumption) (by walk_at "look22")
  | exact Chg.getK (by assumption) (by walk_at "look22") (by exact rfl)
  | exact Chg.get (by assumption) (by walk_at "look22") (by walk_at "ne22")
  | exact sameGet (by assumption) (by walk_at "look22")
  | exact sbutGet (by assumption) (by walk_at "look22") (by walk_at "ne22")
  | exact keepGet (by assumption) (by walk_at "look22") trivial)
local macro_rules | `(tactic| walk_at "look22") => `(tactic| first
  | assumption
  | exact New.at_ (by assumption)
  | exact Chg.at_ (by assumption)
  | exact New.get (by assumption) (by walk_at "look23")
  | exact Chg.getK (by assumption) (by walk_at "look23") (by exact rfl)
  | exact Chg.get (by assumption) (by walk_at "look23") (by walk_at "ne23")
  | exact sameGet (by assumption) (by walk_at "look23")
  | exact sbutGet (by assumption) (by walk_at "look23") (by walk_at "ne23")
  | exact keepGet (by assumption) (by walk_at "look23") trivial)
local macro_rules | `(tactic| walk_at "look23") => `(tactic| first
  | assumption
  | exact New.at_ (by assumption)
  | exact Chg.at_ (by assumption)
  | exact New.get (by assumption) (by walk_at "look24")
  | exact Chg.getK (by assumption) (by walk_at "look24") (by exact rfl)
  | exact Chg.get (by assumption) (by walk_at "look24") (by walk_at "ne24")
  | exact sameGet (by assumption) (by walk_at "look24")
  | exact sbutGet (by assumption) (by walk_at "look24") (by walk_at "ne24")
  | exact keepGet (by assumption) (by walk_at "look24") trivial)
local macro_rules | `(tactic| walk_at "look24") => `(tactic| assumption)
local macro_rules | `(tactic| walk_at "kp") => `(tactic| first
  | exact fun _ _ h _ => h
  | assumption
  | exact Keep.of (by assumption)
  | exact keepStep (New.keep (by assumption)) (by walk_at "kp1")
  | exact keepStep (Chg.keepL (by assumption)) (by walk_at "kp1")
  | exact keepStep (Chg.keepD (by assumption)) (by walk_at "kp1")
  | exact keepStep (Chg.keepE (by assumption)) (by walk_at "kp1")
  | exact keepStep (Keep.of (by assumption)) (by walk_at "kp1")
  | exact keepStep (by assumption) (by walk_at "kp1"))
local macro_rules | `(tactic| walk_at "kp1") => `(tactic| first
  | exact fun _ _ h _ => h
  | assumption
  | exact Keep.of (by assumption)
  | exact keepStep (New.keep (by assumption)) (by walk_at "kp2")
  | exact keepStep (Chg.keepL (by assumption)) (by walk_at "kp2")
  | exact keepStep (Chg.keepD (by assumption)) (by walk_at "kp2")
  | exact keepStep (Chg.keepE (by assumption)) (by walk_at "kp2")
  | exact keepStep (Keep.of (by assumption)) (by walk_at "kp2")
  | exact keepStep (by assumption) (by walk_at "kp2"))
local macro_rules | `(tactic| walk_at "kp2") => `(tactic| first
  | exact fun _ _ h _ => h
  | assumption
  | exact Keep.of (by assumption)
  | exact keepStep (New.keep (by assumption)) (by walk_at "kp3")
  | exact keepStep (Chg.keepL (by assumption)) (by walk_at "kp3")
  | exact keepStep (Chg.keepD (by assumption)) (by walk_at "kp3")
  | exact keepStep (Chg.keepE (by assumption)) (by walk_at "kp3")
  | exact keepStep (Keep.of (by assumption)) (by walk_at "kp3")
  | exact keepStep (by assumption) (by walk_at "kp3"))
local macro_rules | `(tactic| walk_at "kp3") => `(tactic| first
  | exact fun _ _ h _ => h
  | assumption
  | exact Keep.of (by assumption)
  | exact keepStep (New.keep (by assumption)) (by walk_at "kp4")
  | exact keepStep (Chg.keepL (by assumption)) (by walk_at "kp4")
  | exact keepStep (Chg.keepD (by assumption)) (by walk_at "kp4")
  | exact keepStep (Chg.keepE (by assumption)) (by walk_at "kp4")
  | exact keepStep (Keep.of (by assumption)) (by walk_at "kp4")
  | exact keepStep (by assumption) (by walk_at "kp4"))
local macro_rules | `(tactic| walk_at "kp4") => `(tactic| first
  | exact fun _ _ h _ => h
  | assumption
  | exact Keep.of (by assumption)
  | exact keepStep (New.keep (by assumption)) (by walk_at "kp5")
  | exact keepStep (Chg.keepL (by assumption)) (by walk_at "kp5")
  | exact keepStep (Chg.keepD (by assumption)) (by walk_at "kp5")
  | exact keepStep (Chg.keepE (by assumption)) (by walk_at "kp5")
  | exact keepStep (Keep.of (by assumption)) (by walk_at "kp5")
  | exact keepStep (by assumption) (by walk_at "kp5"))
local macro_rules | `(tactic| walk_at "kp5") => `(tactic| first
  | exact fun _ _ h _ => h
  | assumption
  | exact Keep.of (by assumption)
  | exact keepStep (New.keep (by assumption)) (by walk_at "kp6")
  | exact keepStep (Chg.keepL (by assumption)) (by walk_at "kp6")
  | exact keepStep (Chg.keepD (by assumption)) (by walk_at "kp6")
  | exact keepStep (Chg.keepE (by assumption)) (by walk_at "kp6")
  | exact keepStep (Keep.of (by assumption)) (by walk_at "kp6")
  | exact keepStep (by assumption) (by walk_at "kp6"))
local macro_rules | `(tactic| walk_at "kp6") => `(tactic| first
  | exact fun _ _ h _ => h
  | assumption
  | exact Keep.of (by assumption)
  | exact keepStep (New.keep (by assumption)) (by walk_at "kp7")
  | exact keepStep (Chg.keepL (by assumption)) (by walk_at "kp7")
  | exact keepStep (Chg.keepD (by assumption)) (by walk_at "kp7")
  | exact keepStep (Chg.keepE (by assumption)) (by walk_at "kp7")
  | exact keepStep (Keep.of (by assumption)) (by walk_at "kp7")
  | exact keepStep (by assumption) (by walk_at "kp7"))
local macro_rules | `(tactic| walk_at "kp7") => `(tactic| first
  | exact fun _ _ h _ => h
  | assumption
  | exact Keep.of (by assumption)
  | exact keepStep (New.keep (by assumption)) (by walk_at "kp8")
  | exact keepStep (Chg.keepL (by assumption)) (by walk_at "kp8")
  | exact keepStep (Chg.keepD (by assumption)) (by walk_at "kp8")
  | exact keepStep (Chg.keepE (by assumption)) (by walk_at "kp8")
  | exact keepStep (Keep.of (by assumption)) (by walk_at "kp8")
  | exact keepStep (by assumption) (by walk_at "kp8"))
local macro_rules | `(tactic| walk_at "kp8") => `(tactic| first
  | exact fun _ _ h _ => h
  | assumption
  | exact Keep.of (by assumption)
  | exact keepStep (New.keep (by assumption)) (by walk_at "kp9")
  | exact keepStep (Chg.keepL (by assumption)) (by walk_at "kp9")
  | exact keepStep (Chg.keepD (by assumption)) (by walk_at "kp9")
  | exact keepStep (Chg.keepE (by assumption)) (by walk_at "kp9")
  | exact keepStep (Keep.of (by assumption)) (by walk_at "kp9")
  | exact keepStep (by assumption) (by walk_at "kp9"))
local macro_rules | `(tactic| walk_at "kp9") => `(tactic| first
  | exact fun _ _ h _ => h
  | assumption
  | exact Keep.of (by assumption)
  | exact keepStep (New.keep (by assumption)) (by walk_at "kp10")
  | exact keepStep (Chg.keepL (by assumption)) (by walk_at "kp10")
  | exact keepStep (Chg.keepD (by assumption)) (by walk_at "kp10")
  | exact keepStep (Chg.keepE (by assumption)) (by walk_at "kp10")
  | exact keepStep (Keep.of (by assumption)) (by walk_at "kp10")
  | exact keepStep (by assumption) (by walk_at "kp10"))
local macro_rules | `(tactic| walk_at "kp10") => `(tactic| first
  | exact fun _ _ h _ => h
  | assumption
  | exact Keep.of (by assumption)
  | exact keepStep (New.keep (by assumption)) (by walk_at "kp11")
  | exact keepStep (Chg.keepL (by assumption)) (by walk_at "kp11")
  | exact keepStep (Chg.keepD (by assumption)) (by walk_at "kp11")
  | exact keepStep (Chg.keepE (by assumption)) (by walk_at "kp11")
  | exact keepStep (Keep.of (by assumption)) (by walk_at "kp11")
  | exact keepStep (by assumption) (by walk_at "kp11"))
local macro_rules | `(tactic| walk_at "kp11") => `(tactic| first
  | exact fun _ _ h _ => h
  | assumption
  | exact Keep.of (by assumption)
  | exact keepStep (New.keep (by assumption)) (by walk_at "kp12")
  | exact keepStep (Chg.keepL (by assumption)) (by walk_at "kp12")
  | exact keepStep (Chg.keepD (by assumption)) (by walk_at "kp12")
  | exact keepStep (Chg.keepE (by assumption)) (by walk_at "kp12")
  | exact keepStep (Keep.of (by assumption)) (by walk_at "kp12")
  | exact keepStep (by assumption) (by walk_at "kp12"))
local macro_rules | `(tactic| walk_at "kp12") => `(tactic| first
  | exact fun _ _ h _ => h
  | assumption
  | exact Keep.of (by assumption)
  | exact keepStep (New.keep (by assumption)) (by walk_at "kp13")
  | exact keepStep (Chg.keepL (by assumption)) (by walk_at "kp13")
  | exact keepStep (Chg.keepD (by assumption)) (by walk_at "kp13")
  | exact keepStep (Chg.keepE (by assumption)) (by walk_at "kp13")
  | exact keepStep (Keep.of (by assumption)) (by walk_at "kp13")
  | exact keepStep (by assumption) (by walk_at "kp13"))
local macro_rules | `(tactic| walk_at "kp13") => `(tactic| first
  | exact fun _ _ h _ => h
  | assumption
  | exact Keep.of (by assumption)
  | exact keepStep (New.keep (by assumption)) (by walk_at "kp14")
  | exact keepStep (Chg.keepL (by assumption)) (by walk_at "kp14")
  | exact keepStep (Chg.keepD (by assumption)) (by walk_at "kp14")
  | exact keepStep (Chg.keepE (by assumption)) (by walk_at "kp14")
  | exact keepStep (Keep.of (by assumption)) (by walk_at "kp14")
  | exact keepStep (by assumption) (by walk_at "kp14"))
local macro_rules | `(tactic| walk_at "kp14") => `(tactic| first
  | exact fun _ _ h _ => h
  | assumption
  | exact Keep.of (by assumption)
  | exact keepStep (New.keep (by assumption)) (by walk_at "kp15")
  | exact keepStep (Chg.keepL (by assumption)) (by walk_at "kp15")
  | exact keepStep (Chg.keepD (by assumption)) (by walk_at "kp15")
  | exact keepStep (Chg.keepE (by assumption)) (by walk_at "kp15")
  | exact keepStep (Keep.of (by assumption)) (by walk_at "kp15")
  | exact keepStep (by assumption) (by walk_at "kp15"))
local macro_rules | `(tactic| walk_at "kp15") => `(tactic| first
  | exact fun _ _ h _ => h
  | assumption
  | exact Keep.of (by assumption)
  | exact keepStep (New.keep (by assumption)) (by walk_at "kp16")
  | exact keepStep (Chg.keepL (by assumption)) (by walk_at "kp16")
  | exact keepStep (Chg.keepD (by assumption)) (by walk_at "kp16")
  | exact keepStep (Chg.keepE (by assumption)) (by walk_at "kp16")
  | exact keepStep (Keep.of (by assumption)) (by walk_at "kp16")
  | exact keepStep (by assumption) (by walk_at "kp16"))
local macro_rules | `(tactic| walk_at "kp16") => `(tactic| first
  | exact fun _ _ h _ => h
  | assumption
  | exact Keep.of (by assumption)
  | exact keepStep (New.keep (by assumption)) (by walk_at "kp17")
  | exact keepStep (Chg.keepL (by assumption)) (by walk_at "kp17")
  | exact keepStep (Chg.keepD (by assumption)) (by walk_at "kp17")
  | exact keepStep (Chg.keepE (by assumption)) (by walk_at "kp17")
  | exact keepStep (Keep.of (by assumption)) (by walk_at "kp17")
  | exact keepStep (by assumption) (by walk_at "kp17"))
local macro_rules | `(tactic| walk_at "kp17") => `(tactic| first
  | exact fun _ _ h _ => h
  | assumption
  | exact Keep.of (by assumption)
  | exact keepStep (New.keep (by assumption)) (by walk_at "kp18")
  | exact keepStep (Chg.keepL (by assumption)) (by walk_at "kp18")
  | exact keepStep (Chg.keepD (by assumption)) (by walk_at "kp18")
  | exact keepStep (Chg.keepE (by assumption)) (by walk_at "kp18")
  | exact keepStep (Keep.of (by assumption)) (by walk_at "kp18")
  | exact keepStep (by assumption) (by walk_at "kp18"))
local macro_rules | `(tactic| walk_at "kp18") => `(tactic| first
  | exact fun _ _ h _ => h
  | assumption
  | exact Keep.of (by assumption)
  | exact keepStep (New.keep (by assumption)) (by walk_at "kp19")
  | exact keepStep (Chg.keepL (by assumption)) (by walk_at "kp19")
  | exact keepStep (Chg.keepD (by assumption)) (by walk_at "kp19")
  | exact keepStep (Chg.keepE (by assumption)) (by walk_at "kp19")
  | exact keepStep (Keep.of (by assumption)) (by walk_at "kp19")
  | exact keepStep (by assumption) (by walk_at "kp19"))
local macro_rules | `(tactic| walk_at "kp19") => `(tactic| first
  | exact fun _ _ h _ => h
  | assumption
  | exact Keep.of (by assumption)
  | exact keepStep (New.keep (by assumption)) (by walk_at "kp20")
  | exact keepStep (Chg.keepL (by assumption)) (by walk_at "kp20")
  | exact keepStep (Chg.keepD (by assumption)) (by walk_at "kp20")
  | exact keepStep (Chg.keepE (by assumption)) (by walk_at "kp20")
  | exact keepStep (Keep.of (by assumption)) (by walk_at "kp20")
  | exact keepStep (by assumption) (by walk_at "kp20"))
local macro_rules | `(tactic| walk_at "kp20") => `(tactic| first
  | exact fun _ _ h _ => h
  | assumption
  | exact Keep.of (by assumption)
  | exact keepStep (New.keep (by assumption)) (by walk_at "kp21")
  | exact keepStep (Chg.keepL (by assumption)) (by walk_at "kp21")
  | exact keepStep (Chg.keepD (by assumption)) (by walk_at "kp21")
  | exact keepStep (Chg.keepE (by assumption)) (by walk_at "kp21")
  | exact keepStep (Keep.of (by assumption)) (by walk_at "kp21")
  | exact keepStep (by assumption) (by walk_at "kp21"))
local macro_rules | `(tactic| walk_at "kp21") => `(tactic| first
  | exact fun _ _ h _ => h
  | assumption
  | exact Keep.of (by assumption)
  | exact keepStep (New.keep (by assumption)) (by walk_at "kp22")
  | exact keepStep (Chg.keepL (by assumption)) (by walk_at "kp22")
  | exact keepStep (Chg.keepD (by assumption)) (by walk_at "kp22")
  | exact keepStep (Chg.keepE (by assumption)) (by walk_at "kp22")
  | exact keepStep (Keep.of (by assumption)) (by walk_at "kp22")
  | exact keepStep (by assumption) (by walk_at "kp22"))
local macro_rules | `(tactic| walk_at "kp22") => `(tactic| first
  | exact fun _ _ h _ => h
  | assumption
  | exact Keep.of (by assumption)
  | exact keepStep (New.keep (by assumption)) (by walk_at "kp23")
  | exact keepStep (Chg.keepL (by assumption)) (by walk_at "kp23")
  | exact keepStep (Chg.keepD (by assumption)) (by walk_at "kp23")
  | exact keepStep (Chg.keepE (by assumption)) (by walk_at "kp23")
  | exact keepStep (Keep.of (by assumption)) (by walk_at "kp23")
  | exact keepStep (by assumption) (by walk_at "kp23"))
local macro_rules | `(tactic| walk_at "kp23") => `(tactic| first
  | exact fun _ _ h _ => h
  | assumption
  | exact Keep.of (by assumption)
  | exact keepStep (New.keep (by assumption)) (by walk_at "kp24")
  | exact keepStep (Chg.keepL (by assumption)) (by walk_at "kp24")
  | exact keepStep (Chg.keepD (by assumption)) (by walk_at "kp24")
  | exact keepStep (Chg.keepE (by assumption)) (by walk_at "kp24")
  | exact keepStep (Keep.of (by assumption)) (by walk_at "kp24")
  | exact keepStep (by assumption) (by walk_at "kp24"))
local macro_rules | `(tactic| walk_at "kp24") => `(tactic| assumption)
local macro_rules | `(tactic| walk_at "sm") => `(tactic| first
  | exact Same.refl _
  | assumption
  | exact sameStep (New.same (by assumption)) (by walk_at "sm1")
  | exact Chg.sameOwn (by assumption) (by walk_at "sm1") (by walk_at "fr1")
  | exact sameStep (by assumption) (by walk_at "sm1"))
local macro_rules | `(tactic| walk_at "sm1") => `(tactic| first
  | exact Same.refl _
  | assumption
  | exact sameStep (New.same (by assumption)) (by walk_at "sm2")
  | exact Chg.sameOwn (by assumption) (by walk_at "sm2") (by walk_at "fr2")
  | exact sameStep (by assumption) (by walk_at "sm2"))
local macro_rules | `(tactic| walk_at "sm2") => `(tactic| first
  | exact Same.refl _
  | assumption
  | exact sameStep (New.same (by assumption)) (by walk_at "sm3")
  | exact Chg.sameOwn (by assumption) (by walk_at "sm3") (by walk_at "fr3")
  | exact sameStep (by assumption) (by walk_at "sm3"))
local macro_rules | `(tactic| walk_at "sm3") => `(tactic| first
  | exact Same.refl _
  | assumption
  | exact sameStep (New.same (by assumption)) (by walk_at "sm4")
  | exact Chg.sameOwn (by assumption) (by walk_at "sm4") (by walk_at "fr4")
  | exact sameStep (by assumption) (by walk_at "sm4"))
local macro_rules | `(tactic| walk_at "sm4") => `(tactic| first
  | exact Same.refl _
  | assumption
  | exact sameStep (New.same (by assumption)) (by walk_at "sm5")
  | exact Chg.sameOwn (by assumption) (by walk_at "sm5") (by walk_at "fr5")
  | exact sameStep (by assumption) (by walk_at "sm5"))
local macro_rules | `(tactic| walk_at "sm5") => `(tactic| first
  | exact Same.refl _
  | assumption
  | exact sameStep (New.same (by assumption)) (by walk_at "sm6")
  | exact Chg.sameOwn (by assumption) (by walk_at "sm6") (by walk_at "fr6")
  | exact sameStep (by assumption) (by walk_at "sm6"))
local macro_rules | `(tactic| walk_at "sm6") => `(tactic| first
  | exact Same.refl _
  | assumption
  | exact sameStep (New.same (by assumption)) (by walk_at "sm7")
  | exact Chg.sameOwn (by assumption) (by walk_at "sm7") (by walk_at "fr7")
  | exact sameStep (by assumption) (by walk_at "sm7"))
local macro_rules | `(tactic| walk_at "sm7") => `(tactic| first
  | exact Same.refl _
  | assumption
  | exact sameStep (New.same (by assumption)) (by walk_at "sm8")
  | exact Chg.sameOwn (by assumption) (by walk_at "sm8") (by walk_at "fr8")
  | exact sameStep (by assumption) (by walk_at "sm8"))
local macro_rules | `(tactic| walk_at "sm8") => `(tactic| first
  | exact Same.refl _
  | assumption
  | exact sameStep (New.same (by assumption)) (by walk_at "sm9")
  | exact Chg.sameOwn (by assumption) (by walk_at "sm9") (by walk_at "fr9")
  | exact sameStep (by assumption) (by walk_at "sm9"))
local macro_rules | `(tactic| walk_at "sm9") => `(tactic| first
  | exact Same.refl _
  | assumption
  | exact sameStep (New.same (by assumption)) (by walk_at "sm10")
  | exact Chg.sameOwn (by assumption) (by walk_at "sm10") (by walk_at "fr10")
  | exact sameStep (by assumption) (by walk_at "sm10"))
local macro_rules | `(tactic| walk_at "sm10") => `(tactic| first
  | exact Same.refl _
  | assumption
  | exact sameStep (New.same (by assumption)) (by walk_at "sm11")
  | exact Chg.sameOwn (by assumption) (by walk_at "sm11") (by walk_at "fr11")
  | exact sameStep (by assumption) (by walk_at "sm11"))
local macro_rules | `(tactic| walk_at "sm11") => `(tactic| first
  | exact Same.refl _
  | assumption
  | exact sameStep (New.same (by assumption)) (by walk_at "sm12")
  | exact Chg.sameOwn (by assumption) (by walk_at "sm12") (by walk_at "fr12")
  | exact sameStep (by assumption) (by walk_at "sm12"))
local macro_rules | `(tactic| walk_at "sm12") => `(tactic| first
  | exact Same.refl _
  | assumption
  | exact sameStep (New.same (by assumption)) (by walk_at "sm13")
  | exact Chg.sameOwn (by assumption) (by walk_at "sm13") (by walk_at "fr13")
  | exact sameStep (by assumption) (by walk_at "sm13"))
local macro_rules | `(tactic| walk_at "sm13") => `(tactic| first
  | exact Same.refl _
  | assumption
  | exact sameStep (New.same (by assumption)) (by walk_at "sm14")
  | exact Chg.sameOwn (by assumption) (by walk_at "sm14") (by walk_at "fr14")
  | exact sameStep (by assumption) (by walk_at "sm14"))
local macro_rules | `(tactic| walk_at "sm14") => `(tactic| first
  | exact Same.refl _
  | assumption
  | exact sameStep (New.same (by assumption)) (by walk_at "sm15")
  | exact Chg.sameOwn (by assumption) (by walk_at "sm15") (by walk_at "fr15")
  | exact sameStep (by assumption) (by walk_at "sm15"))
local macro_rules | `(tactic| walk_at "sm15") => `(tactic| first
  | exact Same.refl _
  | assumption
  | exact sameStep (New.same (by assumption)) (by walk_at "sm16")
  | exact Chg.sameOwn (by assumption) (by walk_at "sm16") (by walk_at "fr16")
  | exact sameStep (by assumption) (by walk_at "sm16"))
local macro_rules | `(tactic| walk_at "sm16") => `(tactic| first
  | exact Same.refl _
  | assumption
  | exact sameStep (New.same (by assumption)) (by walk_at "sm17")
  | exact Chg.sameOwn (by assumption) (by walk_at "sm17") (by walk_at "fr17")
  | exact sameStep (by assumption) (by walk_at "sm17"))
local macro_rules | `(tactic| walk_at "sm17") => `(tactic| first
  | exact Same.refl _
  | assumption
  | exact sameStep (New.same (by assumption)) (by walk_at "sm18")
  | exact Chg.sameOwn (by assumption) (by walk_at "sm18") (by walk_at "fr18")
  | exact sameStep (by assumption) (by walk_at "sm18"))
local macro_rules | `(tactic| walk_at "sm18") => `(tactic| first
  | exact Same.refl _
  | assumption
  | exact sameStep (New.same (by assumption)) (by walk_at "sm19")
  | exact Chg.sameOwn (by assumption) (by walk_at "sm19") (by walk_at "fr19")
  | exact sameStep (by assumption) (by walk_at "sm19"))
local macro_rules | `(tactic| walk_at "sm19") => `(tactic| first
  | exact Same.refl _
  | assumption
  | exact sameStep (New.same (by assumption)) (by walk_at "sm20")
  | exact Chg.sameOwn (by assumption) (by walk_at "sm20") (by walk_at "fr20")
  | exact sameStep (by assumption) (by walk_at "sm20"))
local macro_rules | `(tactic| walk_at "sm20") => `(tactic| first
  | exact Same.refl _
  | assumption
  | exact sameStep (New.same (by assumption)) (by walk_at "sm21")
  | exact Chg.sameOwn (by assumption) (by walk_at "sm21") (by walk_at "fr21")
  | exact sameStep (by assumption) (by walk_at "sm21"))
local macro_rules | `(tactic| walk_at "sm21") => `(tactic| first
  | exact Same.refl _
  | assumption
  | exact sameStep (New.same (by assumption)) (by walk_at "sm22")
  | exact Chg.sameOwn (by assumption) (by walk_at "sm22") (by walk_at "fr22")
  | exact sameStep (by assumption) (by walk_at "sm22"))
local macro_rules | `(tactic| walk_at "sm22") => `(tactic| first
  | exact Same.refl _
  | assumption
  | exact sameStep (New.same (by assumption)) (by walk_at "sm23")
  | exact Chg.sameOwn (by assumption) (by walk_at "sm23") (by walk_at "fr23")
  | exact sameStep (by assumption) (by walk_at "sm23"))
local macro_rules | `(tactic| walk_at "sm23") => `(tactic| first
  | exact Same.refl _
  | assumption
  | exact sameStep (New.same (by assumption)) (by walk_at "sm24")
  | exact Chg.sameOwn (by assumption) (by walk_at "sm24") (by walk_at "fr24")
  | exact sameStep (by assumption) (by walk_at "sm24"))
local macro_rules | `(tactic| walk_at "sm24") => `(tactic| assumption)
local macro_rules | `(tactic| walk_at "fr") => `(tactic| first
  | assumption
  | exact New.free (by assumption)
  | exact freeBack (New.free (by assumption)) (by walk_at "sm1"))
local macro_rules | `(tactic| walk_at "fr1") => `(tactic| first
  | assumption
  | exact New.free (by assumption)
  | exact freeBack (New.free (by assumption)) (by walk_at "sm2"))
local macro_rules | `(tactic| walk_at "fr2") => `(tactic| first
  | assumption
  | exact New.free (by assumption)
  | exact freeBack (New.free (by assumption)) (by walk_at "sm3"))
local macro_rules | `(tactic| walk_at "fr3") => `(tactic| first
  | assumption
  | exact New.free (by assumption)
  | exact freeBack (New.free (by assumption)) (by walk_at "sm4"))
local macro_rules | `(tactic| walk_at "fr4") => `(tactic| first
  | assumption
  | exact New.free (by assumption)
  | exact freeBack (New.free (by assumption)) (by walk_at "sm5"))
local macro_rules | `(tactic| walk_at "fr5") => `(tactic| first
  | assumption
  | exact New.free (by assumption)
  | exact freeBack (New.free (by assumption)) (by walk_at "sm6"))
local macro_rules | `(tactic| walk_at "fr6") => `(tactic| first
  | assumption
  | exact New.free (by assumption)
  | exact freeBack (New.free (by assumption)) (by walk_at "sm7"))
local macro_rules | `(tactic| walk_at "fr7") => `(tactic| first
  | assumption
  | exact New.free (by assumption)
  | exact freeBack (New.free (by assumption)) (by walk_at "sm8"))
local macro_rules | `(tactic| walk_at "fr8") => `(tactic| first
  | assumption
  | exact New.free (by assumption)
  | exact freeBack (New.free (by assumption)) (by walk_at "sm9"))
local macro_rules | `(tactic| walk_at "fr9") => `(tactic| first
  | assumption
  | exact New.free (by assumption)
  | exact freeBack (New.free (by assumption)) (by walk_at "sm10"))
local macro_rules | `(tactic| walk_at "fr10") => `(tactic| first
  | assumption
  | exact New.free (by assumption)
  | exact freeBack (New.free (by assumption)) (by walk_at "sm11"))
local macro_rules | `(tactic| walk_at "fr11") => `(tactic| first
  | assumption
  | exact New.free (by assumption)
  | exact freeBack (New.free (by assumption)) (by walk_at "sm12"))
local macro_rules | `(tactic| walk_at "fr12") => `(tactic| first
  | assumption
  | exact New.free (by assumption)
  | exact freeBack (New.free (by assumption)) (by walk_at "sm13"))
local macro_rules | `(tactic| walk_at "fr13") => `(tactic| first
  | assumption
  | exact New.free (by assumption)
  | exact freeBack (New.free (by assumption)) (by walk_at "sm14"))
local macro_rules | `(tactic| walk_at "fr14") => `(tactic| first
  | assumption
  | exact New.free (by assumption)
  | exact freeBack (New.free (by assumption)) (by walk_at "sm15"))
local macro_rules | `(tactic| walk_at "fr15") => `(tactic| first
  | assumption
  | exact New.free (by assumption)
  | exact freeBack (New.free (by assumption)) (by walk_at "sm16"))
local macro_rules | `(tactic| walk_at "fr16") => `(tactic| first
  | assumption
  | exact New.free (by assumption)
  | exact freeBack (New.free (by assumption)) (by walk_at "sm17"))
local macro_rules | `(tactic| walk_at "fr17") => `(tactic| first
  | assumption
  | exact New.free (by assumption)
  | exact freeBack (New.free (by assumption)) (by walk_at "sm18"))
local macro_rules | `(tactic| walk_at "fr18") => `(tactic| first
  | assumption
  | exact New.free (by assumption)
  | exact freeBack (New.free (by assumption)) (by walk_at "sm19"))
local macro_rules | `(tactic| walk_at "fr19") => `(tactic| first
  | assumption
  | exact New.free (by assumption)
  | exact freeBack (New.free (by assumption)) (by walk_at "sm20"))
local macro_rules | `(tactic| walk_at "fr20") => `(tactic| first
  | assumption
  | exact New.free (by assumption)
  | exact freeBack (New.free (by assumption)) (by walk_at "sm21"))
local macro_rules | `(tactic| walk_at "fr21") => `(tactic| first
  | assumption
  | exact New.free (by assumption)
  | exact freeBack (New.free (by assumption)) (by walk_at "sm22"))
local macro_rules | `(tactic| walk_at "fr22") => `(tactic| first
  | assumption
  | exact New.free (by assumption)
  | exact freeBack (New.free (by assumption)) (by walk_at "sm23"))
local macro_rules | `(tactic| walk_at "fr23") => `(tactic| first
  | assumption
  | exact New.free (by assumption)
  | exact freeBack (New.free (by assumption)) (by walk_at "sm24"))
local macro_rules | `(tactic| walk_at "fr24") => `(tactic| assumption)
local macro_rules | `(tactic| walk_at "ci") => `(tactic| first | decide | exact ⟨by decide, by decide⟩ | assumption | exact cmR (by decide) (by decide) | exact cmL (by decide) (by decide) | exact cmR (by omega) (by omega) | exact cmL (by omega) (by omega) | exact dvW (by omega) (by omega) | omega)
local macro_rules | `(tactic| walk_at "sz") => `(tactic| (have hzz := sizeLine_eq; (try simp only [List.length_append, List.length_cons, List.length_nil, List.length_map, List.length_replicate]); (first | done | omega)))
local macro_rules | `(tactic| walk_at "at") => `(tactic| first | assumption | exact rfl | exact atI_nat (by assumption))
local macro_rules | `(tactic| walk_at "ty") => `(tactic| first
  | exact .base .non
  | exact .base (.bl _)
  | exact .base (.int _)
  | exact .base (.str _)
  | exact .base (.tup (by walk_at "look"))
  | exact .base (.lst (by walk_at "look"))
  | exact .base (.dK (by walk_at "look")))
local macro_rules | `(tactic| walk_at "bt") => `(tactic| first
  | exact fun _ _ e _ => e
  | assumption
  | exact Chg.butStep (by assumption) (by walk_at "bt1")
  | exact butStep (New.same (by assumption)) (by walk_at "bt1"))
local macro_rules | `(tactic| walk_at "bt1") => `(tactic| first
  | exact fun _ _ e _ => e
  | assumption
  | exact Chg.butStep (by assumption) (by walk_at "bt2")
  | exact butStep (New.same (by assumption)) (by walk_at "bt2"))
local macro_rules | `(tactic| walk_at "bt2") => `(tactic| first
  | exact fun _ _ e _ => e
  | assumption
  | exact Chg.butStep (by assumption) (by walk_at "bt3")
  | exact butStep (New.same (by assumption)) (by walk_at "bt3"))
local macro_rules | `(tactic| walk_at "bt3") => `(tactic| first
  | exact fun _ _ e _ => e
  | assumption
  | exact Chg.butStep (by assumption) (by walk_at "bt4")
  | exact butStep (New.same (by assumption)) (by walk_at "bt4"))
local macro_rules | `(tactic| walk_at "bt4") => `(tactic| first
  | exact fun _ _ e _ => e
  | assumption
  | exact Chg.butStep (by assumption) (by walk_at "bt5")
  | exact butStep (New.same (by assumption)) (by walk_at "bt5"))
local macro_rules | `(tactic| walk_at "bt5") => `(tactic| first
  | exact fun _ _ e _ => e
  | assumption
  | exact Chg.butStep (by assumption) (by walk_at "bt6")
  | exact butStep (New.same (by assumption)) (by walk_at "bt6"))
local macro_rules | `(tactic| walk_at "bt6") => `(tactic| first
  | exact fun _ _ e _ => e
  | assumption
  | exact Chg.butStep (by assumption) (by walk_at "bt7")
  | exact butStep (New.same (by assumption)) (by walk_at "bt7"))
local macro_rules | `(tactic| walk_at "bt7") => `(tactic| first
  | exact fun _ _ e _ => e
  | assumption
  | exact Chg.butStep (by assumption) (by walk_at "bt8")
  | exact butStep (New.same (by assumption)) (by walk_at "bt8"))
local macro_rules | `(tactic| walk_at "bt8") => `(tactic| first
  | exact fun _ _ e _ => e
  | assumption
  | exact Chg.butStep (by assumption) (by walk_at "bt9")
  | exact butStep (New.same (by assumption)) (by walk_at "bt9"))
local macro_rules | `(tactic| walk_at "bt9") => `(tactic| first
  | exact fun _ _ e _ => e
  | assumption
  | exact Chg.butStep (by assumption) (by walk_at "bt10")
  | exact butStep (New.same (by assumption)) (by walk_at "bt10"))
local macro_rules | `(tactic| walk_at "bt10") => `(tactic| first
  | exact fun _ _ e _ => e
  | assumption
  | exact Chg.butStep (by assumption) (by walk_at "bt11")
  | exact butStep (New.same (by assumption)) (by walk_at "bt11"))
local macro_rules | `(tactic| walk_at "bt11") => `(tactic| first
  | exact fun _ _ e _ => e
  | assumption
  | exact Chg.butStep (by assumption) (by walk_at "bt12")
  | exact butStep (New.same (by assumption)) (by walk_at "bt12"))
local macro_rules | `(tactic| walk_at "bt12") => `(tactic| first
  | exact fun _ _ e _ => e
  | assumption
  | exact Chg.butStep (by assumption) (by walk_at "bt13")
  | exact butStep (New.same (by assumption)) (by walk_at "bt13"))
local macro_rules | `(tactic| walk_at "bt13") => `(tactic| first
  | exact fun _ _ e _ => e
  | assumption
  | exact Chg.butStep (by assumption) (by walk_at "bt14")
  | exact butStep (New.same (by assumption)) (by walk_at "bt14"))
local macro_rules | `(tactic| walk_at "bt14") => `(tactic| first
  | exact fun _ _ e _ => e
  | assumption
  | exact Chg.butStep (by assumption) (by walk_at "bt15")
  | exact butStep (New.same (by assumption)) (by walk_at "bt15"))
local macro_rules | `(tactic| walk_at "bt15") => `(tactic| first
  | exact fun _ _ e _ => e
  | assumption
  | exact Chg.butStep (by assumption) (by walk_at "bt16")
  | exact butStep (New.same (by assumption)) (by walk_at "bt16"))
local macro_rules | `(tactic| walk_at "bt16") => `(tactic| first
  | exact fun _ _ e _ => e
  | assumption
  | exact Chg.butStep (by assumption) (by walk_at "bt17")
  | exact butStep (New.same (by assumption)) (by walk_at "bt17"))
local macro_rules | `(tactic| walk_at "bt17") => `(tactic| first
  | exact fun _ _ e _ => e
  | assumption
  | exact Chg.butStep (by assumption) (by walk_at "bt18")
  | exact butStep (New.same (by assumption)) (by walk_at "bt18"))
local macro_rules | `(tactic| walk_at "bt18") => `(tactic| first
  | exact fun _ _ e _ => e
  | assumption
  | exact Chg.butStep (by assumption) (by walk_at "bt19")
  | exact butStep (New.same (by assumption)) (by walk_at "bt19"))
local macro_rules | `(tactic| walk_at "bt19") => `(tactic| first
  | exact fun _ _ e _ => e
  | assumption
  | exact Chg.butStep (by assumption) (by walk_at "bt20")
  | exact butStep (New.same (by assumption)) (by walk_at "bt20"))
local macro_rules | `(tactic| walk_at "bt20") => `(tactic| first
  | exact fun _ _ e _ => e
  | assumption
  | exact Chg.butStep (by assumption) (by walk_at "bt21")
  | exact butStep (New.same (by assumption)) (by walk_at "bt21"))
local macro_rules | `(tactic| walk_at "bt21") => `(tactic| first
  | exact fun _ _ e _ => e
  | assumption
  | exact Chg.butStep (by assumption) (by walk_at "bt22")
  | exact butStep (New.same (by assumption)) (by walk_at "bt22"))
local macro_rules | `(tactic| walk_at "bt22") => `(tactic| first
  | exact fun _ _ e _ => e
  | assumption
  | exact Chg.butStep (by assumption) (by walk_at "bt23")
  | exact butStep (New.same (by assumption)) (by walk_at "bt23"))
local macro_rules | `(tactic| walk_at "bt23") => `(tactic| first
  | exact fun _ _ e _ => e
  | assumption
  | exact Chg.butStep (by assumption) (by walk_at "bt24")
  | exact butStep (New.same (by assumption)) (by walk_at "bt24"))
local macro_rules | `(tactic| walk_at "bt24") => `(tactic| assumption)
local macro_rules | `(tactic| walk_at "isij") => `(tactic| first
  | assumption
  | exact IsiAt.hk (by assumption) 0 _ (by exact rfl)
  | exact IsiAt.hk (by assumption) 1 _ (by exact rfl)
  | exact IsiAt.hk (by assumption) 2 _ (by exact rfl)
  | exact IsiAt.hk (by assumption) 3 _ (by exact rfl)
  | exact IsiAt.hk (by assumption) 4 _ (by exact rfl)
  | exact IsiAt.hk (by assumption) 5 _ (by exact rfl)
  | exact IsiAt.hk (by assumption) 6 _ (by exact rfl)
  | exact IsiAt.hk (by assumption) 7 _ (by exact rfl)
  | exact IsiAt.hk (by assumption) 8 _ (by exact rfl)
  | exact IsiAt.hk (by assumption) 9 _ (by exact rfl)
  | exact IsiAt.hk (by assumption) 10 _ (by exact rfl)
  | exact IsiAt.hk (by assumption) 11 _ (by exact rfl)
  | exact IsiAt.hk (by assumption) 12 _ (by exact rfl)
  | exact IsiAt.hk (by assumption) 13 _ (by exact rfl)
  | exact IsiAt.hk (by assumption) 14 _ (by exact rfl)
  | exact IsiAt.hk (by assumption) 15 _ (by exact rfl)
  | exact IsiAt.hk (by assumption) 16 _ (by exact rfl)
  | exact IsiAt.hk (by assumption) 17 _ (by exact rfl)
  | exact IsiAt.hk (by assumption) 18 _ (by exact rfl))
local macro_rules | `(tactic| walk_at "sy1") => `(tactic| first
  | with_reducible refine stp ?_
  | ((with_reducible apply w_var); (· exact rfl))
  | ((with_reducible refine w_name ?_); intro σ' e; (first | dsimp only [List.set] at e | dsimp only [L2.start, L2.wipe, List.map, List.length_cons, List.length_nil, Nat.reduceAdd, Nat.reduceSub, List.replicate, List.cons_append, List.nil_append, List.append, List.set] at e); subst e)
  | with_reducible refine w_nx ?_
  | ((with_reducible apply w_rI); (· walk_at "ci"))
  | ((with_reducible apply w_newT); (· walk_at "sz"); intro p H' n)
  | ((with_reducible apply w_newL); (· walk_at "sz"); intro p H' n)
  | with_reducible refine iteDT rfl ?_
  | ((with_reducible apply iteDT); (· (first | omega | assumption)))
  | ((with_reducible apply iteDF); (· (first | omega | assumption | exact (fun h => V.noConfusion h) | (with_reducible exact (by decide +kernel)))))
  | ((with_reducible apply iteBT); (· (first | exact rfl | assumption | decide +kernel)))
  | ((with_reducible apply iteBF); (· (first | exact rfl | assumption | decide +kernel)))
  | ((with_reducible apply iteNF); (· (first | exact rfl | omega | assumption)))
  | ((with_reducible apply iteNT); (· (first | omega | assumption | exact (fun h => V.noConfusion h))))
  | ((with_reducible apply w_ixT); (· walk_at "look"); (· walk_at "at"))
  | ((with_reducible apply w_ixL); (· walk_at "look"); (· walk_at "at"))
  | ((with_reducible apply w_lenT); (· walk_at "look"))
  | ((with_reducible apply w_lenL); (· walk_at "look"))
  | ((with_reducible apply w_tyL); (· walk_at "look"))
  | ((with_reducible apply w_append); (· walk_at "look"); (· walk_at "sz"); intro H' c)
  | ((with_reducible apply w_setL); (· walk_at "look"); (· walk_at "at"); intro H' c)
  | with_reducible refine w_rt ?_
  | with_reducible refine w_bk ?_
  | with_reducible refine w_ct ?_
  | ((with_reducible apply w_fld1); (· walk_at "look"); (· assumption); (· assumption); (· exact rfl))
  | ((with_reducible apply w_aug); (· exact rfl))
  | ((with_reducible apply w_forT); (· walk_at "look"))
  | ((with_reducible apply w_forL); (· walk_at "look"))
  | ((with_reducible apply w_inT); (· walk_at "look"); (· exact rfl); (· exact rfl))
  | ((with_reducible apply w_inL); (· walk_at "look"); (· exact rfl); (· exact rfl))
  | ((with_reducible apply w_wipe); (· exact rfl))
  | ((with_reducible apply w_acc); (· walk_at "look"); (· walk_at "sz"); intro H' c)
  | ((with_reducible apply w_rng1a); (· omega); (· omega))
  | ((with_reducible apply w_rng2a); (· omega); (· omega); (· omega); (· omega))
  | ((with_reducible apply w_gTup); (· walk_at "look"); (· exact rfl))
  | ((with_reducible apply w_cat); (· walk_at "look"); (· walk_at "look"); (· walk_at "sz"); intro p H' n)
  | ((with_reducible apply w_rep); (· walk_at "look"); (· omega); (· omega); (· walk_at "sz"); intro p H' n)
  | ((with_reducible apply w_zipT); (· walk_at "look"); (· walk_at "look"))
  | ((with_reducible apply w_meth1); (· walk_at "look"); (· exact rfl))
  | ((with_reducible apply w_tupOfL); (· walk_at "look"))
  | ((with_reducible apply w_tupOfT); (· walk_at "look"))
  | ((with_reducible apply w_slL); (· walk_at "look"); intro p H' n)
  | ((with_reducible apply w_isi); (· walk_at "ty"); (· exact rfl))
  | ((with_reducible apply w_all); (· walk_at "look"))
  | ((with_reducible apply w_kset); (· walk_at "look"); (· assumption); (· assumption); (· first | exact (by decide : 0 < 1000) | exact (by decide : 1 < 1000) | exact (by decide : 2 < 1000) | exact (by decide : 3 < 1000) | exact (by decide : 4 < 1000) | exact (by decide : 5 < 1000) | exact (by decide : 6 < 1000) | exact (by decide : 12 < 1000) | exact (by decide : 7 < 1000) | exact (by decide : 8 < 1000) | exact (by decide : 9 < 1000) | exact (by decide : 10 < 1000) | exact (by decide : 11 < 1000)); intro H' c)
  | ((with_reducible apply w_isiO); (· walk_at "look"); (· assumption); (· assumption); (· assumption); (· assumption); (· assumption); (· walk_at "isij"))
  | ((with_reducible apply w_strI); (· first | assumption | decide))
  | ((with_reducible apply w_addS); (· first | assumption | walk_at "sz"))
  | ((with_reducible intro l hl); generalize hX : upd _ l _ = H'; have n := newOf hl hX; clear hX)
  | walk_at "use")
local macro_rules | `(tactic| walk_at "sy") => `(tactic| repeat walk_at "sy1")

/-! ### draws -/
/-- a list that stays, whatever becomes of the object at p -/
def Stays (K : PySem.W.Frag) (H : Hp) (p a : Addr) (xs : List V) : Prop := ∀ H', SameBut p H H' → SqL K H' a xs
theorem Stays.of {K : PySem.W.Frag} {H0 H : Hp} {p a : Addr} {xs : List V} (h : SqL K H0 a xs) (s : Same H0 H) (f : H0 p = none) : Stays K H p a xs := fun H' b => Same.seq (fun x o e => b _ _ (s _ _ e) (ne_of_none e f)) h
theorem Stays.but {K : PySem.W.Frag} {H H' : Hp} {p a : Addr} {xs : List V} (h : Stays K H p a xs) (s : SameBut p H H') : Stays K H' p a xs := fun H2 b => h H2 (fun x o e n => b _ _ (s _ _ e n) n)
theorem Stays.now {K : PySem.W.Frag} {H : Hp} {p a : Addr} {xs : List V} (h : Stays K H p a xs) : SqL K H a xs := h H fun _ _ e _ => e
section
variable {P : Program} {w : World} {K : PySem.W.Frag} {mg : Str → Option Value} {base : Heap}
theorem w_lenS {H : Hp} {p : Addr} {xs : List V} {P : List V → Prop} (a : SqL K H p xs) (h : P xs) : ∃ p' ys, [V.ref p] = [.ref p'] ∧ (SqL K H p' ys ∨ SqT K H p' ys) ∧ P ys := ⟨p, xs, rfl, .inl a, h⟩
theorem w_ixS {H : Hp} {Q : VK} {p : Addr} {xs : List V} {i : Int} {v : V} (a : SqL K H p xs) (e : atI xs i = some v) (h : Q v H) : rIxL K (.ref p) (.int i) H Q := ⟨p, xs, i, v, rfl, rfl, a, e, h⟩
def spDraw (K : PySem.W.Frag) : Sp := fun vs H Q _ => ∃ (a tp : Addr) (ns : List Int) (k : Nat) (m : Int), vs = [.ref a, .ref tp, .int m] ∧ Stays K H tp a (ns.map V.int) ∧ H tp = some (.lst [.int (k : Int)]) ∧ k ≤ 1000000 ∧ 0 < m ∧
  ∀ (H' : Hp) (d : Int), Chg tp (.lst [.int (k : Int)]) (.lst [.int ((k + 1 : Nat) : Int)]) H H' → 0 ≤ d → d < m → Q (.int d) H'
theorem use_draw {H : Hp} {Q : VK} {E : XK} {a tp : Addr} {ns : List Int} {k : Nat} {m : Int} (h1 : Stays K H tp a (ns.map V.int)) (h2 : H tp = some (.lst [.int (k : Int)])) (h3 : k ≤ 1000000) (h4 : 0 < m)
    (q : ∀ (H' : Hp) (d : Int), Chg tp (.lst [.int (k : Int)]) (.lst [.int ((k + 1 : Nat) : Int)]) H H' → 0 ≤ d → d < m → Q (.int d) H') : spDraw K ([.ref a, .ref tp, .int m] ++ []) H Q E := ⟨a, tp, ns, k, m, rfl, h1, h2, h3, h4, q⟩
theorem ok_l_draw (T : Tx K mg) : FnOk P w K mg base CX0 1 T.f_l_draw T.d_l_draw ["_law_script", "_law_tape", "_law_many"] (spDraw K) := by
  refine T.F_l_draw.ok sc_l_draw (fun vs H Q E h => ?_) (fun cdv A outer s H vs Q E hr h => ?_)
  · obtain ⟨a, tp, ns, k, m, rfl, _⟩ := h
    rfl
  · obtain ⟨a, tp, ns, k, m, rfl, hS, htp, hk, hm, q⟩ := h
    refine ⟨_, (pss_cons (ps_set (i := 3) sc_l_draw.nd rfl (Or.inl rfl) (pe_ix (ix_listK (K := K) rfl) (pv 1) pe_int (fun _ _ => rfl)))
      (pss_cons (ps_asg (pe_op op_add (pv 3) pe_int) (pg_sub (pv 1) pe_int set_list))
      (pss_cons (ps_set (i := 4) sc_l_draw.nd rfl (Or.inl rfl) pe_int)
      (pss_cons (ps_if (pt_cmpR op_gt (pe_callB (len_seqK (K := K) rfl) (by rfl) T.n_len PySem.boot_len (pa_cons (pv 0) pa_nil)) pe_int (nomark _))
        (pss_one (ps_set (i := 4) sc_l_draw.nd rfl (Or.inl rfl) (pe_ix (ix_listK (K := K) rfl) (pv 0) (pe_op op_mod (pv 3) (pe_callB (len_seqK (K := K) rfl) (by rfl) T.n_len PySem.boot_len (pa_cons (pv 0) pa_nil))) (fun _ _ => rfl))))
        pss_nil)
      (pss_cons (ps_set (i := 5) sc_l_draw.nd rfl (Or.inl rfl) (pe_op op_mod (pe_op op_add (pe_op op_add (pe_op op_add (pe_op op_mul (pv 4) pe_int) (pe_op op_mul (pe_op op_mul pe_int (pv 3)) (pv 3))) (pe_op op_mul pe_int (pv 3))) pe_int) pe_int))
      (pss_cons (ps_set (i := 6) sc_l_draw.nd rfl (Or.inl rfl) (pe_op op_mod (pe_op op_mul (pe_op op_mod (pe_op op_mul (pv 5) (pv 5)) pe_int) pe_int) pe_int))
      (pss_one (ps_ret (pe_op op_mod (pe_op op_fdiv (pe_op op_mod (pe_op op_mul (pv 6) (pv 6)) pe_int) pe_int) (pv 2)))))))))), ?_⟩
    walk_at "sy"
    rename_i H1 c1
    have hS1 := (hS.but c1.but).now
    have fin : ∀ x : Int, Q (.int (x % m)) H1 := fun x => q H1 _ c1 (Int.emod_nonneg _ (by omega)) (Int.emod_lt_of_pos _ hm)
    refine w_lenS hS1 ?_
    walk_at "sy"
    by_cases h0 : 0 < (ns.map V.int).length
    · refine iteDT (by omega) ?_
      walk_at "sy"
      refine w_lenS hS1 ?_
      have m0 := Int.emod_nonneg (k : Int) (show ((ns.map V.int).length : Int) ≠ 0 by omega)
      have m1 := Int.emod_lt_of_pos (k : Int) (show (0 : Int) < ((ns.map V.int).length : Int) by omega)
      walk_at "sy"
      obtain ⟨j, hj⟩ : ∃ j : Nat, (k : Int) % ((ns.map V.int).length : Int) = (j : Int) := ⟨_, (Int.toNat_of_nonneg m0).symm⟩
      have hjl : j < ns.length := by
        rw [hj, List.length_map] at m1
        omega
      refine w_ixS (v := .int ns[j]) hS1 ?_ ?_
      · rw [hj]
        exact atI_nat (by rw [List.getElem?_map, List.getElem?_eq_getElem hjl]; rfl)
      generalize ns[j] = z
      walk_at "sy"
      exact fin _
    · refine iteDF (by omega) ?_
      walk_at "sy"
      exact fin _
end
/-! ### data that stays: none, numbers, texts, tuples of such -/
inductive Dt where
  | non
  | int (i : Int)
  | str (s : Str)
  | tup (ds : List Dt)
mutual
def dpt : Dt → Nat
  | .tup ds => 1 + dpts ds
  | _ => 0
def dpts : List Dt → Nat
  | [] => 0
  | d :: ds => max (dpt d) (dpts ds)
end
mutual
def smallD : Dt → Prop
  | .tup ds => ds.length ≤ 1000 ∧ smallDs ds
  | _ => True
def smallDs : List Dt → Prop
  | [] => True
  | d :: ds => smallD d ∧ smallDs ds
end
mutual
def IsD (H : Hp) : Dt → V → Prop
  | .non, v => v = .non
  | .int i, v => v = .int i
  | .str s, v => v = .str s
  | .tup ds, v => ∃ p vs, v = .ref p ∧ H p = some (.tup vs) ∧ IsDs H ds vs
def IsDs (H : Hp) : List Dt → List V → Prop
  | [], vs => vs = []
  | d :: ds, vs => ∃ v r, vs = v :: r ∧ IsD H d v ∧ IsDs H ds r
end
mutual
theorem IsD.keep {H H' : Hp} (k : Keep H H') : ∀ {d : Dt} {v : V}, IsD H d v → IsD H' d v
  | .non, _, h => h
  | .int _, _, h => h
  | .str _, _, h => h
  | .tup _, _, ⟨p, vs, e, h, g⟩ => ⟨p, vs, e, k _ _ h trivial, IsDs.keep k g⟩
theorem IsDs.keep {H H' : Hp} (k : Keep H H') : ∀ {ds : List Dt} {vs : List V}, IsDs H ds vs → IsDs H' ds vs
  | [], _, h => h
  | _ :: _, _, ⟨v, r, e, h, g⟩ => ⟨v, r, e, IsD.keep k h, IsDs.keep k g⟩
end
theorem IsDs.len {H : Hp} : ∀ {ds : List Dt} {vs : List V}, IsDs H ds vs → vs.length = ds.length
  | [], _, h => by
    have h : _ = _ := h
    subst h
    rfl
  | _ :: ds, _, ⟨v, r, e, _, h2⟩ => by
    subst e
    simp [IsDs.len h2]
theorem IsDs.get {H : Hp} : ∀ {ds : List Dt} {vs : List V} {i : Nat} {d : Dt}, IsDs H ds vs → ds[i]? = some d → ∃ v, vs[i]? = some v ∧ IsD H d v
  | _ :: ds, _, 0, d, ⟨v, r, e, h1, _⟩, h => by
    subst e
    simp at h
    subst h
    exact ⟨v, rfl, h1⟩
  | _ :: ds, _, i + 1, d, ⟨v, r, e, _, h2⟩, h => by
    subst e
    obtain ⟨w, q1, q2⟩ := IsDs.get (i := i) h2 (by simpa using h)
    exact ⟨w, by simpa using q1, q2⟩
theorem IsDs.at {H : Hp} {ds : List Dt} {vs : List V} {i : Nat} {v : V} (h : IsDs H ds vs) (e : vs[i]? = some v) : ∃ d, ds[i]? = some d ∧ IsD H d v := by
  have hi := (List.getElem?_eq_some_iff.mp e).1
  rw [h.len] at hi
  obtain ⟨w, h1, h2⟩ := h.get (List.getElem?_eq_getElem hi)
  rw [e] at h1
  cases h1
  exact ⟨_, List.getElem?_eq_getElem hi, h2⟩
theorem IsDs.snoc {H : Hp} {d : Dt} {v : V} (h : IsD H d v) : ∀ {ds : List Dt} {vs : List V}, IsDs H ds vs → IsDs H (ds ++ [d]) (vs ++ [v])
  | [], _, e => by
    have e : _ = _ := e
    subst e
    exact ⟨v, [], rfl, h, rfl⟩
  | _ :: _, _, ⟨w, r, e, h1, h2⟩ => by
    subst e
    exact ⟨w, _, rfl, h1, IsDs.snoc h h2⟩
theorem dpt_mem : ∀ {ds : List Dt} {d : Dt}, d ∈ ds → dpt d ≤ dpts ds
  | a :: ds, d, h => by
    simp only [dpts]
    rcases List.mem_cons.mp h with e | h
    · subst e
      omega
    · have := dpt_mem h
      omega
theorem small_mem : ∀ {ds : List Dt} {d : Dt}, smallDs ds → d ∈ ds → smallD d
  | a :: ds, d, h, m => by
    rcases List.mem_cons.mp m with e | m
    · subst e
      exact h.1
    · exact small_mem h.2 m
section

/-! ### rows as data -/
inductive At where
  | num (n : Nat)
  | nam (s : Str)
inductive Gv where
  | at (a : At)
  | path (p : List Str)
def atD : At → Dt
  | .num n => .int (n : Int)
  | .nam s => .str s
def pathD (p : List Str) : Dt := .tup (p.map Dt.str)
def gvD : Gv → Dt
  | .at a => atD a
  | .path p => pathD p
def optD : Option Str → Dt
  | none => .non
  | some s => .str s
def modeS (h : Bool) : Str := if h = true then "hand" else "look"
inductive Rw where
  | set (x0 : Str) (x1 : At) (x2 : Str) (x3 : At)
  | make (x0 : Str) (x1 : Str) (x2 : List At)
  | non (x0 : Str) (x1 : Str)
  | give (x0 : Str) (x1 : Str)
  | take (x0 : Str) (x1 : List Str)
  | fill (x0 : List Str) (x1 : Str)
  | swap (x0 : Str) (x1 : List Str)
  | get (x0 : Str) (x1 : List Str)
  | put (x0 : List Str) (x1 : At)
  | has (x0 : Str) (x1 : List Str)
  | drop (x0 : Str)
  | lend (x0 : Bool) (x1 : Str) (x2 : List Str)
  | step (x0 : Str) (x1 : Str)
  | call (x0 : Option Str) (x1 : Str) (x2 : List Gv)
  | back (x0 : At)
  | ask (x0 : Str)
  | tell (x0 : At)
/-- what the fields hold -/
def argsD : Rw → List Dt
  | .set x0 x1 x2 x3 => [Dt.str x0, atD x1, Dt.str x2, atD x3]
  | .make x0 x1 x2 => [Dt.str x0, Dt.str x1, Dt.tup (x2.map atD)]
  | .non x0 x1 => [Dt.str x0, Dt.str x1]
  | .give x0 x1 => [Dt.str x0, Dt.str x1]
  | .take x0 x1 => [Dt.str x0, pathD x1]
  | .fill x0 x1 => [pathD x0, Dt.str x1]
  | .swap x0 x1 => [Dt.str x0, pathD x1]
  | .get x0 x1 => [Dt.str x0, pathD x1]
  | .put x0 x1 => [pathD x0, atD x1]
  | .has x0 x1 => [Dt.str x0, pathD x1]
  | .drop x0 => [Dt.str x0]
  | .lend x0 x1 x2 => [Dt.str (modeS x0), Dt.str x1, pathD x2]
  | .step x0 x1 => [Dt.str x0, Dt.str x1]
  | .call x0 x1 x2 => [optD x0, Dt.str x1, Dt.tup (x2.map gvD)]
  | .back x0 => [atD x0]
  | .ask x0 => [Dt.str x0]
  | .tell x0 => [atD x0]
/-- what a row tells -/
def toldD : Rw → Dt
  | .set x0 x1 x2 x3 => .tup [Dt.str "set", Dt.str x0, atD x1, Dt.str x2, atD x3]
  | .make x0 x1 x2 => .tup [Dt.str "make", Dt.str x0, Dt.str x1, Dt.tup (x2.map atD)]
  | .non x0 x1 => .tup [Dt.str "none", Dt.str x0, Dt.str x1]
  | .give x0 x1 => .tup [Dt.str "give", Dt.str x0, Dt.str x1]
  | .take x0 x1 => .tup [Dt.str "take", Dt.str x0, pathD x1]
  | .fill x0 x1 => .tup [Dt.str "fill", pathD x0, Dt.str x1]
  | .swap x0 x1 => .tup [Dt.str "swap", Dt.str x0, pathD x1]
  | .get x0 x1 => .tup [Dt.str "get", Dt.str x0, pathD x1]
  | .put x0 x1 => .tup [Dt.str "put", pathD x0, atD x1]
  | .has x0 x1 => .tup [Dt.str "has", Dt.str x0, pathD x1]
  | .drop x0 => .tup [Dt.str "drop", Dt.str x0]
  | .lend x0 x1 x2 => .tup [Dt.str (modeS x0), Dt.str x1, pathD x2]
  | .step x0 x1 => .tup [Dt.str "step", Dt.str x0, Dt.str x1]
  | .call x0 x1 x2 => .tup [Dt.str "call", optD x0, Dt.str x1, Dt.tup (x2.map gvD)]
  | .back x0 => .tup [Dt.str "back", atD x0]
  | .ask x0 => .tup [Dt.str "ask", Dt.str x0]
  | .tell x0 => .tup [Dt.str "tell", atD x0]
section
variable {P : Program} {w : World} {K : PySem.W.Frag} {mg : Str → Option Value} {base : Heap}
abbrev fsSetRow (v0 v1 v2 v3 : V) : List (Str × V) := putF "other" v3 (putF "sign" v2 (putF "one" v1 (putF "name" v0 [])))
def spInitSetRow (T : Tx K mg) : Sp := fun vs H Q _ => ∃ (x dx : Addr) (v0 v1 v2 v3 : V), vs = [.ref x, v0, v1, v2, v3] ∧ H x = some (.ins T.a_SetRow dx []) ∧ ∀ H', SameBut x H H' → H' x = some (.ins T.a_SetRow dx (fsSetRow v0 v1 v2 v3)) → Q .non H'
theorem ok_SetRow_init (T : Tx K mg) : FnOk P w K mg base CX0 1 T.f_SetRow_init T.d_SetRow_init ["self", "name", "one", "sign", "other"] (spInitSetRow T) := by
  refine T.F_SetRow_init.ok sc_SetRow_init (fun vs H Q E h => ?_) (fun cdv A outer s H vs Q E hr h => ?_)
  · obtain ⟨x, dx, v0, v1, v2, v3, rfl, _⟩ := h
    rfl
  · obtain ⟨x, dx, v0, v1, v2, v3, rfl, hx, q⟩ := h
    refine ⟨_, (pss_cons (ps_fld (pv 0) (pv 1) rfl)
      (pss_cons (ps_fld (pv 0) (pv 2) rfl)
      (pss_cons (ps_fld (pv 0) (pv 3) rfl)
      (pss_one (ps_fld (pv 0) (pv 4) rfl))))), ?_⟩
    have ccl := T.cl_SetRow
    have na0 := T.na_SetRow_name
    have na1 := T.na_SetRow_one
    have na2 := T.na_SetRow_sign
    have na3 := T.na_SetRow_other
    walk_at "sy"
    exact q _ (by walk_at "bt") (by walk_at "look")
def spToldSetRow (T : Tx K mg) : Sp := fun vs H Q _ => ∃ (x dx : Addr) (v0 v1 v2 v3 : V), vs = [.ref x] ∧ H x = some (.ins T.a_SetRow dx (fsSetRow v0 v1 v2 v3)) ∧ ∀ (p : Addr) (H' : Hp), New p (.tup [.str "set", v0, v1, v2, v3]) H H' → Q (.ref p) H'
theorem ok_SetRow_told (T : Tx K mg) : FnOk P w K mg base CX0 1 T.f_SetRow_told T.d_SetRow_told ["self"] (spToldSetRow T) := by
  refine T.F_SetRow_told.ok sc_SetRow_told (fun vs H Q E h => ?_) (fun cdv A outer s H vs Q E hr h => ?_)
  · obtain ⟨x, dx, v0, v1, v2, v3, rfl, _⟩ := h
    rfl
  · obtain ⟨x, dx, v0, v1, v2, v3, rfl, hx, q⟩ := h
    refine ⟨_, (pss_one (ps_ret (pe_tup (pa_cons pe_str (pa_cons (fldK (K := K) rfl (pv 0) rfl) (pa_cons (fldK (K := K) rfl (pv 0) rfl) (pa_cons (fldK (K := K) rfl (pv 0) rfl) (pa_cons (fldK (K := K) rfl (pv 0) rfl) pa_nil)))))))), ?_⟩
    have ccl := T.cl_SetRow
    have na0 := T.na_SetRow_name
    have na1 := T.na_SetRow_one
    have na2 := T.na_SetRow_sign
    have na3 := T.na_SetRow_other
    walk_at "sy"
    exact q _ _ (by assumption)
theorem use_SetRow {T : Tx K mg} {H : Hp} {Q : VK} {E : XK} {v0 v1 v2 v3 : V} (h : ∀ (x dx : Addr) (H' : Hp), New x (.ins T.a_SetRow dx (fsSetRow v0 v1 v2 v3)) H H' → Q (.ref x) H') : kMake T.a_SetRow (spInitSetRow T) [] E [v0, v1, v2, v3] H Q := by
  intro x dx hx hd hne
  refine ⟨x, dx, v0, v1, v2, v3, rfl, upd_same, fun H' sb hx' => ⟨rfl, h x dx H' ⟨hx, hx', sb.made hx hd⟩⟩⟩
abbrev fsMakeRow (v0 v1 v2 : V) : List (Str × V) := putF "atoms" v2 (putF "record" v1 (putF "name" v0 []))
def spInitMakeRow (T : Tx K mg) : Sp := fun vs H Q _ => ∃ (x dx : Addr) (v0 v1 v2 : V), vs = [.ref x, v0, v1, v2] ∧ H x = some (.ins T.a_MakeRow dx []) ∧ (∃ (q : Addr) (us : List V), v2 = .ref q ∧ H q = some (.tup us)) ∧ ∀ H', SameBut x H H' → H' x = some (.ins T.a_MakeRow dx (fsMakeRow v0 v1 v2)) → Q .non H'
theorem ok_MakeRow_init (T : Tx K mg) : FnOk P w K mg base CX0 1 T.f_MakeRow_init T.d_MakeRow_init ["self", "name", "record", "atoms"] (spInitMakeRow T) := by
  refine T.F_MakeRow_init.ok sc_MakeRow_init (fun vs H Q E h => ?_) (fun cdv A outer s H vs Q E hr h => ?_)
  · obtain ⟨x, dx, v0, v1, v2, rfl, _⟩ := h
    rfl
  · obtain ⟨x, dx, v0, v1, v2, rfl, hx, ⟨q0, us0, rfl, hq0⟩, q⟩ := h
    refine ⟨_, (pss_cons (ps_fld (pv 0) (pv 1) rfl)
      (pss_cons (ps_fld (pv 0) (pv 2) rfl)
      (pss_one (ps_fld (pv 0) (pe_callTy (tuple_ofK (K := K) rfl) (by rfl) T.n_tuple PyProof.Rows.boot_tuple (pa_cons (pv 3) pa_nil)) rfl)))), ?_⟩
    have ccl := T.cl_MakeRow
    have na0 := T.na_MakeRow_name
    have na1 := T.na_MakeRow_record
    have na2 := T.na_MakeRow_atoms
    walk_at "sy"
    exact q _ (by walk_at "bt") (by walk_at "look")
def spToldMakeRow (T : Tx K mg) : Sp := fun vs H Q _ => ∃ (x dx : Addr) (v0 v1 v2 : V), vs = [.ref x] ∧ H x = some (.ins T.a_MakeRow dx (fsMakeRow v0 v1 v2)) ∧ ∀ (p : Addr) (H' : Hp), New p (.tup [.str "make", v0, v1, v2]) H H' → Q (.ref p) H'
theorem ok_MakeRow_told (T : Tx K mg) : FnOk P w K mg base CX0 1 T.f_MakeRow_told T.d_MakeRow_told ["self"] (spToldMakeRow T) := by
  refine T.F_MakeRow_told.ok sc_MakeRow_told (fun vs H Q E h => ?_) (fun cdv A outer s H vs Q E hr h => ?_)
  · obtain ⟨x, dx, v0, v1, v2, rfl, _⟩ := h
    rfl
  · obtain ⟨x, dx, v0, v1, v2, rfl, hx, q⟩ := h
    refine ⟨_, (pss_one (ps_ret (pe_tup (pa_cons pe_str (pa_cons (fldK (K := K) rfl (pv 0) rfl) (pa_cons (fldK (K := K) rfl (pv 0) rfl) (pa_cons (fldK (K := K) rfl (pv 0) rfl) pa_nil))))))), ?_⟩
    have ccl := T.cl_MakeRow
    have na0 := T.na_MakeRow_name
    have na1 := T.na_MakeRow_record
    have na2 := T.na_MakeRow_atoms
    walk_at "sy"
    exact q _ _ (by assumption)
theorem use_MakeRow {T : Tx K mg} {H : Hp} {Q : VK} {E : XK} {v0 v1 v2 : V} {q0 : Addr} {us0 : List V} (e0 : v2 = .ref q0) (hq : H q0 = some (.tup us0)) (h : ∀ (x dx : Addr) (H' : Hp), New x (.ins T.a_MakeRow dx (fsMakeRow v0 v1 v2)) H H' → Q (.ref x) H') : kMake T.a_MakeRow (spInitMakeRow T) [] E [v0, v1, v2] H Q := by
  intro x dx hx hd hne
  refine ⟨x, dx, v0, v1, v2, rfl, upd_same, ⟨q0, us0, e0, by rw [upd_ne (ne_of_none hq hx), upd_ne (ne_of_none hq hd)]; exact hq⟩, fun H' sb hx' => ⟨rfl, h x dx H' ⟨hx, hx', sb.made hx hd⟩⟩⟩
abbrev fsNoneRow (v0 v1 : V) : List (Str × V) := putF "record" v1 (putF "name" v0 [])
def spInitNoneRow (T : Tx K mg) : Sp := fun vs H Q _ => ∃ (x dx : Addr) (v0 v1 : V), vs = [.ref x, v0, v1] ∧ H x = some (.ins T.a_NoneRow dx []) ∧ ∀ H', SameBut x H H' → H' x = some (.ins T.a_NoneRow dx (fsNoneRow v0 v1)) → Q .non H'
theorem ok_NoneRow_init (T : Tx K mg) : FnOk P w K mg base CX0 1 T.f_NoneRow_init T.d_NoneRow_init ["self", "name", "record"] (spInitNoneRow T) := by
  refine T.F_NoneRow_init.ok sc_NoneRow_init (fun vs H Q E h => ?_) (fun cdv A outer s H vs Q E hr h => ?_)
  · obtain ⟨x, dx, v0, v1, rfl, _⟩ := h
    rfl
  · obtain ⟨x, dx, v0, v1, rfl, hx, q⟩ := h
    refine ⟨_, (pss_cons (ps_fld (pv 0) (pv 1) rfl)
      (pss_one (ps_fld (pv 0) (pv 2) rfl))), ?_⟩
    have ccl := T.cl_NoneRow
    have na0 := T.na_NoneRow_name
    have na1 := T.na_NoneRow_record
    walk_at "sy"
    exact q _ (by walk_at "bt") (by walk_at "look")
def spToldNoneRow (T : Tx K mg) : Sp := fun vs H Q _ => ∃ (x dx : Addr) (v0 v1 : V), vs = [.ref x] ∧ H x = some (.ins T.a_NoneRow dx (fsNoneRow v0 v1)) ∧ ∀ (p : Addr) (H' : Hp), New p (.tup [.str "none", v0, v1]) H H' → Q (.ref p) H'
theorem ok_NoneRow_told (T : Tx K mg) : FnOk P w K mg base CX0 1 T.f_NoneRow_told T.d_NoneRow_told ["self"] (spToldNoneRow T) := by
  refine T.F_NoneRow_told.ok sc_NoneRow_told (fun vs H Q E h => ?_) (fun cdv A outer s H vs Q E hr h => ?_)
  · obtain ⟨x, dx, v0, v1, rfl, _⟩ := h
    rfl
  · obtain ⟨x, dx, v0, v1, rfl, hx, q⟩ := h
    refine ⟨_, (pss_one (ps_ret (pe_tup (pa_cons pe_str (pa_cons (fldK (K := K) rfl (pv 0) rfl) (pa_cons (fldK (K := K) rfl (pv 0) rfl) pa_nil)))))), ?_⟩
    have ccl := T.cl_NoneRow
    have na0 := T.na_NoneRow_name
    have na1 := T.na_NoneRow_record
    walk_at "sy"
    exact q _ _ (by assumption)
theorem use_NoneRow {T : Tx K mg} {H : Hp} {Q : VK} {E : XK} {v0 v1 : V} (h : ∀ (x dx : Addr) (H' : Hp), New x (.ins T.a_NoneRow dx (fsNoneRow v0 v1)) H H' → Q (.ref x) H') : kMake T.a_NoneRow (spInitNoneRow T) [] E [v0, v1] H Q := by
  intro x dx hx hd hne
  refine ⟨x, dx, v0, v1, rfl, upd_same, fun H' sb hx' => ⟨rfl, h x dx H' ⟨hx, hx', sb.made hx hd⟩⟩⟩
abbrev fsGiveRow (v0 v1 : V) : List (Str × V) := putF "other" v1 (putF "name" v0 [])
def spInitGiveRow (T : Tx K mg) : Sp := fun vs H Q _ => ∃ (x dx : Addr) (v0 v1 : V), vs = [.ref x, v0, v1] ∧ H x = some (.ins T.a_GiveRow dx []) ∧ ∀ H', SameBut x H H' → H' x = some (.ins T.a_GiveRow dx (fsGiveRow v0 v1)) → Q .non H'
theorem ok_GiveRow_init (T : Tx K mg) : FnOk P w K mg base CX0 1 T.f_GiveRow_init T.d_GiveRow_init ["self", "name", "other"] (spInitGiveRow T) := by
  refine T.F_GiveRow_init.ok sc_GiveRow_init (fun vs H Q E h => ?_) (fun cdv A outer s H vs Q E hr h => ?_)
  · obtain ⟨x, dx, v0, v1, rfl, _⟩ := h
    rfl
  · obtain ⟨x, dx, v0, v1, rfl, hx, q⟩ := h
    refine ⟨_, (pss_cons (ps_fld (pv 0) (pv 1) rfl)
      (pss_one (ps_fld (pv 0) (pv 2) rfl))), ?_⟩
    have ccl := T.cl_GiveRow
    have na0 := T.na_GiveRow_name
    have na1 := T.na_GiveRow_other
    walk_at "sy"
    exact q _ (by walk_at "bt") (by walk_at "look")
def spToldGiveRow (T : Tx K mg) : Sp := fun vs H Q _ => ∃ (x dx : Addr) (v0 v1 : V), vs = [.ref x] ∧ H x = some (.ins T.a_GiveRow dx (fsGiveRow v0 v1)) ∧ ∀ (p : Addr) (H' : Hp), New p (.tup [.str "give", v0, v1]) H H' → Q (.ref p) H'
theorem ok_GiveRow_told (T : Tx K mg) : FnOk P w K mg base CX0 1 T.f_GiveRow_told T.d_GiveRow_told ["self"] (spToldGiveRow T) := by
  refine T.F_GiveRow_told.ok sc_GiveRow_told (fun vs H Q E h => ?_) (fun cdv A outer s H vs Q E hr h => ?_)
  · obtain ⟨x, dx, v0, v1, rfl, _⟩ := h
    rfl
  · obtain ⟨x, dx, v0, v1, rfl, hx, q⟩ := h
    refine ⟨_, (pss_one (ps_ret (pe_tup (pa_cons pe_str (pa_cons (fldK (K := K) rfl (pv 0) rfl) (pa_cons (fldK (K := K) rfl (pv 0) rfl) pa_nil)))))), ?_⟩
    have ccl := T.cl_GiveRow
    have na0 := T.na_GiveRow_name
    have na1 := T.na_GiveRow_other
    walk_at "sy"
    exact q _ _ (by assumption)
theorem use_GiveRow {T : Tx K mg} {H : Hp} {Q : VK} {E : XK} {v0 v1 : V} (h : ∀ (x dx : Addr) (H' : Hp), New x (.ins T.a_GiveRow dx (fsGiveRow v0 v1)) H H' → Q (.ref x) H') : kMake T.a_GiveRow (spInitGiveRow T) [] E [v0, v1] H Q := by
  intro x dx hx hd hne
  refine ⟨x, dx, v0, v1, rfl, upd_same, fun H' sb hx' => ⟨rfl, h x dx H' ⟨hx, hx', sb.made hx hd⟩⟩⟩
abbrev fsTakeRow (v0 v1 : V) : List (Str × V) := putF "path" v1 (putF "name" v0 [])
def spInitTakeRow (T : Tx K mg) : Sp := fun vs H Q _ => ∃ (x dx : Addr) (v0 v1 : V), vs = [.ref x, v0, v1] ∧ H x = some (.ins T.a_TakeRow dx []) ∧ ∀ H', SameBut x H H' → H' x = some (.ins T.a_TakeRow dx (fsTakeRow v0 v1)) → Q .non H'
theorem ok_TakeRow_init (T : Tx K mg) : FnOk P w K mg base CX0 1 T.f_TakeRow_init T.d_TakeRow_init ["self", "name", "path"] (spInitTakeRow T) := by
  refine T.F_TakeRow_init.ok sc_TakeRow_init (fun vs H Q E h => ?_) (fun cdv A outer s H vs Q E hr h => ?_)
  · obtain ⟨x, dx, v0, v1, rfl, _⟩ := h
    rfl
  · obtain ⟨x, dx, v0, v1, rfl, hx, q⟩ := h
    refine ⟨_, (pss_cons (ps_fld (pv 0) (pv 1) rfl)
      (pss_one (ps_fld (pv 0) (pv 2) rfl))), ?_⟩
    have ccl := T.cl_TakeRow
    have na0 := T.na_TakeRow_name
    have na1 := T.na_TakeRow_path
    walk_at "sy"
    exact q _ (by walk_at "bt") (by walk_at "look")
def spToldTakeRow (T : Tx K mg) : Sp := fun vs H Q _ => ∃ (x dx : Addr) (v0 v1 : V), vs = [.ref x] ∧ H x = some (.ins T.a_TakeRow dx (fsTakeRow v0 v1)) ∧ ∀ (p : Addr) (H' : Hp), New p (.tup [.str "take", v0, v1]) H H' → Q (.ref p) H'
theorem ok_TakeRow_told (T : Tx K mg) : FnOk P w K mg base CX0 1 T.f_TakeRow_told T.d_TakeRow_told ["self"] (spToldTakeRow T) := by
  refine T.F_TakeRow_told.ok sc_TakeRow_told (fun vs H Q E h => ?_) (fun cdv A outer s H vs Q E hr h => ?_)
  · obtain ⟨x, dx, v0, v1, rfl, _⟩ := h
    rfl
  · obtain ⟨x, dx, v0, v1, rfl, hx, q⟩ := h
    refine ⟨_, (pss_one (ps_ret (pe_tup (pa_cons pe_str (pa_cons (fldK (K := K) rfl (pv 0) rfl) (pa_cons (fldK (K := K) rfl (pv 0) rfl) pa_nil)))))), ?_⟩
    have ccl := T.cl_TakeRow
    have na0 := T.na_TakeRow_name
    have na1 := T.na_TakeRow_path
    walk_at "sy"
    exact q _ _ (by assumption)
theorem use_TakeRow {T : Tx K mg} {H : Hp} {Q : VK} {E : XK} {v0 v1 : V} (h : ∀ (x dx : Addr) (H' : Hp), New x (.ins T.a_TakeRow dx (fsTakeRow v0 v1)) H H' → Q (.ref x) H') : kMake T.a_TakeRow (spInitTakeRow T) [] E [v0, v1] H Q := by
  intro x dx hx hd hne
  refine ⟨x, dx, v0, v1, rfl, upd_same, fun H' sb hx' => ⟨rfl, h x dx H' ⟨hx, hx', sb.made hx hd⟩⟩⟩
abbrev fsFillRow (v0 v1 : V) : List (Str × V) := putF "name" v1 (putF "path" v0 [])
def spInitFillRow (T : Tx K mg) : Sp := fun vs H Q _ => ∃ (x dx : Addr) (v0 v1 : V), vs = [.ref x, v0, v1] ∧ H x = some (.ins T.a_FillRow dx []) ∧ ∀ H', SameBut x H H' → H' x = some (.ins T.a_FillRow dx (fsFillRow v0 v1)) → Q .non H'
theorem ok_FillRow_init (T : Tx K mg) : FnOk P w K mg base CX0 1 T.f_FillRow_init T.d_FillRow_init ["self", "path", "name"] (spInitFillRow T) := by
  refine T.F_FillRow_init.ok sc_FillRow_init (fun vs H Q E h => ?_) (fun cdv A outer s H vs Q E hr h => ?_)
  · obtain ⟨x, dx, v0, v1, rfl, _⟩ := h
    rfl
  · obtain ⟨x, dx, v0, v1, rfl, hx, q⟩ := h
    refine ⟨_, (pss_cons (ps_fld (pv 0) (pv 1) rfl)
      (pss_one (ps_fld (pv 0) (pv 2) rfl))), ?_⟩
    have ccl := T.cl_FillRow
    have na0 := T.na_FillRow_path
    have na1 := T.na_FillRow_name
    walk_at "sy"
    exact q _ (by walk_at "bt") (by walk_at "look")
def spToldFillRow (T : Tx K mg) : Sp := fun vs H Q _ => ∃ (x dx : Addr) (v0 v1 : V), vs = [.ref x] ∧ H x = some (.ins T.a_FillRow dx (fsFillRow v0 v1)) ∧ ∀ (p : Addr) (H' : Hp), New p (.tup [.str "fill", v0, v1]) H H' → Q (.ref p) H'
theorem ok_FillRow_told (T : Tx K mg) : FnOk P w K mg base CX0 1 T.f_FillRow_told T.d_FillRow_told ["self"] (spToldFillRow T) := by
  refine T.F_FillRow_told.ok sc_FillRow_told (fun vs H Q E h => ?_) (fun cdv A outer s H vs Q E hr h => ?_)
  · obtain ⟨x, dx, v0, v1, rfl, _⟩ := h
    rfl
  · obtain ⟨x, dx, v0, v1, rfl, hx, q⟩ := h
    refine ⟨_, (pss_one (ps_ret (pe_tup (pa_cons pe_str (pa_cons (fldK (K := K) rfl (pv 0) rfl) (pa_cons (fldK (K := K) rfl (pv 0) rfl) pa_nil)))))), ?_⟩
    have ccl := T.cl_FillRow
    have na0 := T.na_FillRow_path
    have na1 := T.na_FillRow_name
    walk_at "sy"
    exact q _ _ (by assumption)
theorem use_FillRow {T : Tx K mg} {H : Hp} {Q : VK} {E : XK} {v0 v1 : V} (h : ∀ (x dx : Addr) (H' : Hp), New x (.ins T.a_FillRow dx (fsFillRow v0 v1)) H H' → Q (.ref x) H') : kMake T.a_FillRow (spInitFillRow T) [] E [v0, v1] H Q := by
  intro x dx hx hd hne
  refine ⟨x, dx, v0, v1, rfl, upd_same, fun H' sb hx' => ⟨rfl, h x dx H' ⟨hx, hx', sb.made hx hd⟩⟩⟩
abbrev fsSwapRow (v0 v1 : V) : List (Str × V) := putF "path" v1 (putF "name" v0 [])
def spInitSwapRow (T : Tx K mg) : Sp := fun vs H Q _ => ∃ (x dx : Addr) (v0 v1 : V), vs = [.ref x, v0, v1] ∧ H x = some (.ins T.a_SwapRow dx []) ∧ ∀ H', SameBut x H H' → H' x = some (.ins T.a_SwapRow dx (fsSwapRow v0 v1)) → Q .non H'
theorem ok_SwapRow_init (T : Tx K mg) : FnOk P w K mg base CX0 1 T.f_SwapRow_init T.d_SwapRow_init ["self", "name", "path"] (spInitSwapRow T) := by
  refine T.F_SwapRow_init.ok sc_SwapRow_init (fun vs H Q E h => ?_) (fun cdv A outer s H vs Q E hr h => ?_)
  · obtain ⟨x, dx, v0, v1, rfl, _⟩ := h
    rfl
  · obtain ⟨x, dx, v0, v1, rfl, hx, q⟩ := h
    refine ⟨_, (pss_cons (ps_fld (pv 0) (pv 1) rfl)
      (pss_one (ps_fld (pv 0) (pv 2) rfl))), ?_⟩
    have ccl := T.cl_SwapRow
    have na0 := T.na_SwapRow_name
    have na1 := T.na_SwapRow_path
    walk_at "sy"
    exact q _ (by walk_at "bt") (by walk_at "look")
def spToldSwapRow (T : Tx K mg) : Sp := fun vs H Q _ => ∃ (x dx : Addr) (v0 v1 : V), vs = [.ref x] ∧ H x = some (.ins T.a_SwapRow dx (fsSwapRow v0 v1)) ∧ ∀ (p : Addr) (H' : Hp), New p (.tup [.str "swap", v0, v1]) H H' → Q (.ref p) H'
theorem ok_SwapRow_told (T : Tx K mg) : FnOk P w K mg base CX0 1 T.f_SwapRow_told T.d_SwapRow_told ["self"] (spToldSwapRow T) := by
  refine T.F_SwapRow_told.ok sc_SwapRow_told (fun vs H Q E h => ?_) (fun cdv A outer s H vs Q E hr h => ?_)
  · obtain ⟨x, dx, v0, v1, rfl, _⟩ := h
    rfl
  · obtain ⟨x, dx, v0, v1, rfl, hx, q⟩ := h
    refine ⟨_, (pss_one (ps_ret (pe_tup (pa_cons pe_str (pa_cons (fldK (K := K) rfl (pv 0) rfl) (pa_cons (fldK (K := K) rfl (pv 0) rfl) pa_nil)))))), ?_⟩
    have ccl := T.cl_SwapRow
    have na0 := T.na_SwapRow_name
    have na1 := T.na_SwapRow_path
    walk_at "sy"
    exact q _ _ (by assumption)
theorem use_SwapRow {T : Tx K mg} {H : Hp} {Q : VK} {E : XK} {v0 v1 : V} (h : ∀ (x dx : Addr) (H' : Hp), New x (.ins T.a_SwapRow dx (fsSwapRow v0 v1)) H H' → Q (.ref x) H') : kMake T.a_SwapRow (spInitSwapRow T) [] E [v0, v1] H Q := by
  intro x dx hx hd hne
  refine ⟨x, dx, v0, v1, rfl, upd_same, fun H' sb hx' => ⟨rfl, h x dx H' ⟨hx, hx', sb.made hx hd⟩⟩⟩
abbrev fsGetRow (v0 v1 : V) : List (Str × V) := putF "path" v1 (putF "name" v0 [])
def spInitGetRow (T : Tx K mg) : Sp := fun vs H Q _ => ∃ (x dx : Addr) (v0 v1 : V), vs = [.ref x, v0, v1] ∧ H x = some (.ins T.a_GetRow dx []) ∧ ∀ H', SameBut x H H' → H' x = some (.ins T.a_GetRow dx (fsGetRow v0 v1)) → Q .non H'
theorem ok_GetRow_init (T : Tx K mg) : FnOk P w K mg base CX0 1 T.f_GetRow_init T.d_GetRow_init ["self", "name", "path"] (spInitGetRow T) := by
  refine T.F_GetRow_init.ok sc_GetRow_init (fun vs H Q E h => ?_) (fun cdv A outer s H vs Q E hr h => ?_)
  · obtain ⟨x, dx, v0, v1, rfl, _⟩ := h
    rfl
  · obtain ⟨x, dx, v0, v1, rfl, hx, q⟩ := h
    refine ⟨_, (pss_cons (ps_fld (pv 0) (pv 1) rfl)
      (pss_one (ps_fld (pv 0) (pv 2) rfl))), ?_⟩
    have ccl := T.cl_GetRow
    have na0 := T.na_GetRow_name
    have na1 := T.na_GetRow_path
    walk_at "sy"
    exact q _ (by walk_at "bt") (by walk_at "look")
def spToldGetRow (T : Tx K mg) : Sp := fun vs H Q _ => ∃ (x dx : Addr) (v0 v1 : V), vs = [.ref x] ∧ H x = some (.ins T.a_GetRow dx (fsGetRow v0 v1)) ∧ ∀ (p : Addr) (H' : Hp), New p (.tup [.str "get", v0, v1]) H H' → Q (.ref p) H'
theorem ok_GetRow_told (T : Tx K mg) : FnOk P w K mg base CX0 1 T.f_GetRow_told T.d_GetRow_told ["self"] (spToldGetRow T) := by
  refine T.F_GetRow_told.ok sc_GetRow_told (fun vs H Q E h => ?_) (fun cdv A outer s H vs Q E hr h => ?_)
  · obtain ⟨x, dx, v0, v1, rfl, _⟩ := h
    rfl
  · obtain ⟨x, dx, v0, v1, rfl, hx, q⟩ := h
    refine ⟨_, (pss_one (ps_ret (pe_tup (pa_cons pe_str (pa_cons (fldK (K := K) rfl (pv 0) rfl) (pa_cons (fldK (K := K) rfl (pv 0) rfl) pa_nil)))))), ?_⟩
    have ccl := T.cl_GetRow
    have na0 := T.na_GetRow_name
    have na1 := T.na_GetRow_path
    walk_at "sy"
    exact q _ _ (by assumption)
theorem use_GetRow {T : Tx K mg} {H : Hp} {Q : VK} {E : XK} {v0 v1 : V} (h : ∀ (x dx : Addr) (H' : Hp), New x (.ins T.a_GetRow dx (fsGetRow v0 v1)) H H' → Q (.ref x) H') : kMake T.a_GetRow (spInitGetRow T) [] E [v0, v1] H Q := by
  intro x dx hx hd hne
  refine ⟨x, dx, v0, v1, rfl, upd_same, fun H' sb hx' => ⟨rfl, h x dx H' ⟨hx, hx', sb.made hx hd⟩⟩⟩
abbrev fsPutRow (v0 v1 : V) : List (Str × V) := putF "atom" v1 (putF "path" v0 [])
def spInitPutRow (T : Tx K mg) : Sp := fun vs H Q _ => ∃ (x dx : Addr) (v0 v1 : V), vs = [.ref x, v0, v1] ∧ H x = some (.ins T.a_PutRow dx []) ∧ ∀ H', SameBut x H H' → H' x = some (.ins T.a_PutRow dx (fsPutRow v0 v1)) → Q .non H'
theorem ok_PutRow_init (T : Tx K mg) : FnOk P w K mg base CX0 1 T.f_PutRow_init T.d_PutRow_init ["self", "path", "atom"] (spInitPutRow T) := by
  refine T.F_PutRow_init.ok sc_PutRow_init (fun vs H Q E h => ?_) (fun cdv A outer s H vs Q E hr h => ?_)
  · obtain ⟨x, dx, v0, v1, rfl, _⟩ := h
    rfl
  · obtain ⟨x, dx, v0, v1, rfl, hx, q⟩ := h
    refine ⟨_, (pss_cons (ps_fld (pv 0) (pv 1) rfl)
      (pss_one (ps_fld (pv 0) (pv 2) rfl))), ?_⟩
    have ccl := T.cl_PutRow
    have na0 := T.na_PutRow_path
    have na1 := T.na_PutRow_atom
    walk_at "sy"
    exact q _ (by walk_at "bt") (by walk_at "look")
def spToldPutRow (T : Tx K mg) : Sp := fun vs H Q _ => ∃ (x dx : Addr) (v0 v1 : V), vs = [.ref x] ∧ H x = some (.ins T.a_PutRow dx (fsPutRow v0 v1)) ∧ ∀ (p : Addr) (H' : Hp), New p (.tup [.str "put", v0, v1]) H H' → Q (.ref p) H'
theorem ok_PutRow_told (T : Tx K mg) : FnOk P w K mg base CX0 1 T.f_PutRow_told T.d_PutRow_told ["self"] (spToldPutRow T) := by
  refine T.F_PutRow_told.ok sc_PutRow_told (fun vs H Q E h => ?_) (fun cdv A outer s H vs Q E hr h => ?_)
  · obtain ⟨x, dx, v0, v1, rfl, _⟩ := h
    rfl
  · obtain ⟨x, dx, v0, v1, rfl, hx, q⟩ := h
    refine ⟨_, (pss_one (ps_ret (pe_tup (pa_cons pe_str (pa_cons (fldK (K := K) rfl (pv 0) rfl) (pa_cons (fldK (K := K) rfl (pv 0) rfl) pa_nil)))))), ?_⟩
    have ccl := T.cl_PutRow
    have na0 := T.na_PutRow_path
    have na1 := T.na_PutRow_atom
    walk_at "sy"
    exact q _ _ (by assumption)
theorem use_PutRow {T : Tx K mg} {H : Hp} {Q : VK} {E : XK} {v0 v1 : V} (h : ∀ (x dx : Addr) (H' : Hp), New x (.ins T.a_PutRow dx (fsPutRow v0 v1)) H H' → Q (.ref x) H') : kMake T.a_PutRow (spInitPutRow T) [] E [v0, v1] H Q := by
  intro x dx hx hd hne
  refine ⟨x, dx, v0, v1, rfl, upd_same, fun H' sb hx' => ⟨rfl, h x dx H' ⟨hx, hx', sb.made hx hd⟩⟩⟩
abbrev fsHasRow (v0 v1 : V) : List (Str × V) := putF "path" v1 (putF "name" v0 [])
def spInitHasRow (T : Tx K mg) : Sp := fun vs H Q _ => ∃ (x dx : Addr) (v0 v1 : V), vs = [.ref x, v0, v1] ∧ H x = some (.ins T.a_HasRow dx []) ∧ ∀ H', SameBut x H H' → H' x = some (.ins T.a_HasRow dx (fsHasRow v0 v1)) → Q .non H'
theorem ok_HasRow_init (T : Tx K mg) : FnOk P w K mg base CX0 1 T.f_HasRow_init T.d_HasRow_init ["self", "name", "path"] (spInitHasRow T) := by
  refine T.F_HasRow_init.ok sc_HasRow_init (fun vs H Q E h => ?_) (fun cdv A outer s H vs Q E hr h => ?_)
  · obtain ⟨x, dx, v0, v1, rfl, _⟩ := h
    rfl
  · obtain ⟨x, dx, v0, v1, rfl, hx, q⟩ := h
    refine ⟨_, (pss_cons (ps_fld (pv 0) (pv 1) rfl)
      (pss_one (ps_fld (pv 0) (pv 2) rfl))), ?_⟩
    have ccl := T.cl_HasRow
    have na0 := T.na_HasRow_name
    have na1 := T.na_HasRow_path
    walk_at "sy"
    exact q _ (by walk_at "bt") (by walk_at "look")
def spToldHasRow (T : Tx K mg) : Sp := fun vs H Q _ => ∃ (x dx : Addr) (v0 v1 : V), vs = [.ref x] ∧ H x = some (.ins T.a_HasRow dx (fsHasRow v0 v1)) ∧ ∀ (p : Addr) (H' : Hp), New p (.tup [.str "has", v0, v1]) H H' → Q (.ref p) H'
theorem ok_HasRow_told (T : Tx K mg) : FnOk P w K mg base CX0 1 T.f_HasRow_told T.d_HasRow_told ["self"] (spToldHasRow T) := by
  refine T.F_HasRow_told.ok sc_HasRow_told (fun vs H Q E h => ?_) (fun cdv A outer s H vs Q E hr h => ?_)
  · obtain ⟨x, dx, v0, v1, rfl, _⟩ := h
    rfl
  · obtain ⟨x, dx, v0, v1, rfl, hx, q⟩ := h
    refine ⟨_, (pss_one (ps_ret (pe_tup (pa_cons pe_str (pa_cons (fldK (K := K) rfl (pv 0) rfl) (pa_cons (fldK (K := K) rfl (pv 0) rfl) pa_nil)))))), ?_⟩
    have ccl := T.cl_HasRow
    have na0 := T.na_HasRow_name
    have na1 := T.na_HasRow_path
    walk_at "sy"
    exact q _ _ (by assumption)
theorem use_HasRow {T : Tx K mg} {H : Hp} {Q : VK} {E : XK} {v0 v1 : V} (h : ∀ (x dx : Addr) (H' : Hp), New x (.ins T.a_HasRow dx (fsHasRow v0 v1)) H H' → Q (.ref x) H') : kMake T.a_HasRow (spInitHasRow T) [] E [v0, v1] H Q := by
  intro x dx hx hd hne
  refine ⟨x, dx, v0, v1, rfl, upd_same, fun H' sb hx' => ⟨rfl, h x dx H' ⟨hx, hx', sb.made hx hd⟩⟩⟩
abbrev fsDropRow (v0 : V) : List (Str × V) := putF "name" v0 []
def spInitDropRow (T : Tx K mg) : Sp := fun vs H Q _ => ∃ (x dx : Addr) (v0 : V), vs = [.ref x, v0] ∧ H x = some (.ins T.a_DropRow dx []) ∧ ∀ H', SameBut x H H' → H' x = some (.ins T.a_DropRow dx (fsDropRow v0)) → Q .non H'
theorem ok_DropRow_init (T : Tx K mg) : FnOk P w K mg base CX0 1 T.f_DropRow_init T.d_DropRow_init ["self", "name"] (spInitDropRow T) := by
  refine T.F_DropRow_init.ok sc_DropRow_init (fun vs H Q E h => ?_) (fun cdv A outer s H vs Q E hr h => ?_)
  · obtain ⟨x, dx, v0, rfl, _⟩ := h
    rfl
  · obtain ⟨x, dx, v0, rfl, hx, q⟩ := h
    refine ⟨_, (pss_one (ps_fld (pv 0) (pv 1) rfl)), ?_⟩
    have ccl := T.cl_DropRow
    have na0 := T.na_DropRow_name
    walk_at "sy"
    exact q _ (by walk_at "bt") (by walk_at "look")
def spToldDropRow (T : Tx K mg) : Sp := fun vs H Q _ => ∃ (x dx : Addr) (v0 : V), vs = [.ref x] ∧ H x = some (.ins T.a_DropRow dx (fsDropRow v0)) ∧ ∀ (p : Addr) (H' : Hp), New p (.tup [.str "drop", v0]) H H' → Q (.ref p) H'
theorem ok_DropRow_told (T : Tx K mg) : FnOk P w K mg base CX0 1 T.f_DropRow_told T.d_DropRow_told ["self"] (spToldDropRow T) := by
  refine T.F_DropRow_told.ok sc_DropRow_told (fun vs H Q E h => ?_) (fun cdv A outer s H vs Q E hr h => ?_)
  · obtain ⟨x, dx, v0, rfl, _⟩ := h
    rfl
  · obtain ⟨x, dx, v0, rfl, hx, q⟩ := h
    refine ⟨_, (pss_one (ps_ret (pe_tup (pa_cons pe_str (pa_cons (fldK (K := K) rfl (pv 0) rfl) pa_nil))))), ?_⟩
    have ccl := T.cl_DropRow
    have na0 := T.na_DropRow_name
    walk_at "sy"
    exact q _ _ (by assumption)
theorem use_DropRow {T : Tx K mg} {H : Hp} {Q : VK} {E : XK} {v0 : V} (h : ∀ (x dx : Addr) (H' : Hp), New x (.ins T.a_DropRow dx (fsDropRow v0)) H H' → Q (.ref x) H') : kMake T.a_DropRow (spInitDropRow T) [] E [v0] H Q := by
  intro x dx hx hd hne
  refine ⟨x, dx, v0, rfl, upd_same, fun H' sb hx' => ⟨rfl, h x dx H' ⟨hx, hx', sb.made hx hd⟩⟩⟩
abbrev fsLendRow (v0 v1 v2 : V) : List (Str × V) := putF "path" v2 (putF "name" v1 (putF "mode" v0 []))
def spInitLendRow (T : Tx K mg) : Sp := fun vs H Q _ => ∃ (x dx : Addr) (v0 v1 v2 : V), vs = [.ref x, v0, v1, v2] ∧ H x = some (.ins T.a_LendRow dx []) ∧ ∀ H', SameBut x H H' → H' x = some (.ins T.a_LendRow dx (fsLendRow v0 v1 v2)) → Q .non H'
theorem ok_LendRow_init (T : Tx K mg) : FnOk P w K mg base CX0 1 T.f_LendRow_init T.d_LendRow_init ["self", "mode", "name", "path"] (spInitLendRow T) := by
  refine T.F_LendRow_init.ok sc_LendRow_init (fun vs H Q E h => ?_) (fun cdv A outer s H vs Q E hr h => ?_)
  · obtain ⟨x, dx, v0, v1, v2, rfl, _⟩ := h
    rfl
  · obtain ⟨x, dx, v0, v1, v2, rfl, hx, q⟩ := h
    refine ⟨_, (pss_cons (ps_fld (pv 0) (pv 1) rfl)
      (pss_cons (ps_fld (pv 0) (pv 2) rfl)
      (pss_one (ps_fld (pv 0) (pv 3) rfl)))), ?_⟩
    have ccl := T.cl_LendRow
    have na0 := T.na_LendRow_mode
    have na1 := T.na_LendRow_name
    have na2 := T.na_LendRow_path
    walk_at "sy"
    exact q _ (by walk_at "bt") (by walk_at "look")
def spToldLendRow (T : Tx K mg) : Sp := fun vs H Q _ => ∃ (x dx : Addr) (v0 v1 v2 : V), vs = [.ref x] ∧ H x = some (.ins T.a_LendRow dx (fsLendRow v0 v1 v2)) ∧ ∀ (p : Addr) (H' : Hp), New p (.tup [v0, v1, v2]) H H' → Q (.ref p) H'
theorem ok_LendRow_told (T : Tx K mg) : FnOk P w K mg base CX0 1 T.f_LendRow_told T.d_LendRow_told ["self"] (spToldLendRow T) := by
  refine T.F_LendRow_told.ok sc_LendRow_told (fun vs H Q E h => ?_) (fun cdv A outer s H vs Q E hr h => ?_)
  · obtain ⟨x, dx, v0, v1, v2, rfl, _⟩ := h
    rfl
  · obtain ⟨x, dx, v0, v1, v2, rfl, hx, q⟩ := h
    refine ⟨_, (pss_one (ps_ret (pe_tup (pa_cons (fldK (K := K) rfl (pv 0) rfl) (pa_cons (fldK (K := K) rfl (pv 0) rfl) (pa_cons (fldK (K := K) rfl (pv 0) rfl) pa_nil)))))), ?_⟩
    have ccl := T.cl_LendRow
    have na0 := T.na_LendRow_mode
    have na1 := T.na_LendRow_name
    have na2 := T.na_LendRow_path
    walk_at "sy"
    exact q _ _ (by assumption)
theorem use_LendRow {T : Tx K mg} {H : Hp} {Q : VK} {E : XK} {v0 v1 v2 : V} (h : ∀ (x dx : Addr) (H' : Hp), New x (.ins T.a_LendRow dx (fsLendRow v0 v1 v2)) H H' → Q (.ref x) H') : kMake T.a_LendRow (spInitLendRow T) [] E [v0, v1, v2] H Q := by
  intro x dx hx hd hne
  refine ⟨x, dx, v0, v1, v2, rfl, upd_same, fun H' sb hx' => ⟨rfl, h x dx H' ⟨hx, hx', sb.made hx hd⟩⟩⟩
abbrev fsStepRow (v0 v1 : V) : List (Str × V) := putF "field" v1 (putF "name" v0 [])
def spInitStepRow (T : Tx K mg) : Sp := fun vs H Q _ => ∃ (x dx : Addr) (v0 v1 : V), vs = [.ref x, v0, v1] ∧ H x = some (.ins T.a_StepRow dx []) ∧ ∀ H', SameBut x H H' → H' x = some (.ins T.a_StepRow dx (fsStepRow v0 v1)) → Q .non H'
theorem ok_StepRow_init (T : Tx K mg) : FnOk P w K mg base CX0 1 T.f_StepRow_init T.d_StepRow_init ["self", "name", "field"] (spInitStepRow T) := by
  refine T.F_StepRow_init.ok sc_StepRow_init (fun vs H Q E h => ?_) (fun cdv A outer s H vs Q E hr h => ?_)
  · obtain ⟨x, dx, v0, v1, rfl, _⟩ := h
    rfl
  · obtain ⟨x, dx, v0, v1, rfl, hx, q⟩ := h
    refine ⟨_, (pss_cons (ps_fld (pv 0) (pv 1) rfl)
      (pss_one (ps_fld (pv 0) (pv 2) rfl))), ?_⟩
    have ccl := T.cl_StepRow
    have na0 := T.na_StepRow_name
    have na1 := T.na_StepRow_field
    walk_at "sy"
    exact q _ (by walk_at "bt") (by walk_at "look")
def spToldStepRow (T : Tx K mg) : Sp := fun vs H Q _ => ∃ (x dx : Addr) (v0 v1 : V), vs = [.ref x] ∧ H x = some (.ins T.a_StepRow dx (fsStepRow v0 v1)) ∧ ∀ (p : Addr) (H' : Hp), New p (.tup [.str "step", v0, v1]) H H' → Q (.ref p) H'
theorem ok_StepRow_told (T : Tx K mg) : FnOk P w K mg base CX0 1 T.f_StepRow_told T.d_StepRow_told ["self"] (spToldStepRow T) := by
  refine T.F_StepRow_told.ok sc_StepRow_told (fun vs H Q E h => ?_) (fun cdv A outer s H vs Q E hr h => ?_)
  · obtain ⟨x, dx, v0, v1, rfl, _⟩ := h
    rfl
  · obtain ⟨x, dx, v0, v1, rfl, hx, q⟩ := h
    refine ⟨_, (pss_one (ps_ret (pe_tup (pa_cons pe_str (pa_cons (fldK (K := K) rfl (pv 0) rfl) (pa_cons (fldK (K := K) rfl (pv 0) rfl) pa_nil)))))), ?_⟩
    have ccl := T.cl_StepRow
    have na0 := T.na_StepRow_name
    have na1 := T.na_StepRow_field
    walk_at "sy"
    exact q _ _ (by assumption)
theorem use_StepRow {T : Tx K mg} {H : Hp} {Q : VK} {E : XK} {v0 v1 : V} (h : ∀ (x dx : Addr) (H' : Hp), New x (.ins T.a_StepRow dx (fsStepRow v0 v1)) H H' → Q (.ref x) H') : kMake T.a_StepRow (spInitStepRow T) [] E [v0, v1] H Q := by
  intro x dx hx hd hne
  refine ⟨x, dx, v0, v1, rfl, upd_same, fun H' sb hx' => ⟨rfl, h x dx H' ⟨hx, hx', sb.made hx hd⟩⟩⟩
abbrev fsCallRow (v0 v1 v2 : V) : List (Str × V) := putF "given" v2 (putF "helper" v1 (putF "name" v0 []))
def spInitCallRow (T : Tx K mg) : Sp := fun vs H Q _ => ∃ (x dx : Addr) (v0 v1 v2 : V), vs = [.ref x, v0, v1, v2] ∧ H x = some (.ins T.a_CallRow dx []) ∧ (∃ (q : Addr) (us : List V), v2 = .ref q ∧ H q = some (.tup us)) ∧ ∀ H', SameBut x H H' → H' x = some (.ins T.a_CallRow dx (fsCallRow v0 v1 v2)) → Q .non H'
theorem ok_CallRow_init (T : Tx K mg) : FnOk P w K mg base CX0 1 T.f_CallRow_init T.d_CallRow_init ["self", "name", "helper", "given"] (spInitCallRow T) := by
  refine T.F_CallRow_init.ok sc_CallRow_init (fun vs H Q E h => ?_) (fun cdv A outer s H vs Q E hr h => ?_)
  · obtain ⟨x, dx, v0, v1, v2, rfl, _⟩ := h
    rfl
  · obtain ⟨x, dx, v0, v1, v2, rfl, hx, ⟨q0, us0, rfl, hq0⟩, q⟩ := h
    refine ⟨_, (pss_cons (ps_fld (pv 0) (pv 1) rfl)
      (pss_cons (ps_fld (pv 0) (pv 2) rfl)
      (pss_one (ps_fld (pv 0) (pe_callTy (tuple_ofK (K := K) rfl) (by rfl) T.n_tuple PyProof.Rows.boot_tuple (pa_cons (pv 3) pa_nil)) rfl)))), ?_⟩
    have ccl := T.cl_CallRow
    have na0 := T.na_CallRow_name
    have na1 := T.na_CallRow_helper
    have na2 := T.na_CallRow_given
    walk_at "sy"
    exact q _ (by walk_at "bt") (by walk_at "look")
def spToldCallRow (T : Tx K mg) : Sp := fun vs H Q _ => ∃ (x dx : Addr) (v0 v1 v2 : V), vs = [.ref x] ∧ H x = some (.ins T.a_CallRow dx (fsCallRow v0 v1 v2)) ∧ ∀ (p : Addr) (H' : Hp), New p (.tup [.str "call", v0, v1, v2]) H H' → Q (.ref p) H'
theorem ok_CallRow_told (T : Tx K mg) : FnOk P w K mg base CX0 1 T.f_CallRow_told T.d_CallRow_told ["self"] (spToldCallRow T) := by
  refine T.F_CallRow_told.ok sc_CallRow_told (fun vs H Q E h => ?_) (fun cdv A outer s H vs Q E hr h => ?_)
  · obtain ⟨x, dx, v0, v1, v2, rfl, _⟩ := h
    rfl
  · obtain ⟨x, dx, v0, v1, v2, rfl, hx, q⟩ := h
    refine ⟨_, (pss_one (ps_ret (pe_tup (pa_cons pe_str (pa_cons (fldK (K := K) rfl (pv 0) rfl) (pa_cons (fldK (K := K) rfl (pv 0) rfl) (pa_cons (fldK (K := K) rfl (pv 0) rfl) pa_nil))))))), ?_⟩
    have ccl := T.cl_CallRow
    have na0 := T.na_CallRow_name
    have na1 := T.na_CallRow_helper
    have na2 := T.na_CallRow_given
    walk_at "sy"
    exact q _ _ (by assumption)
theorem use_CallRow {T : Tx K mg} {H : Hp} {Q : VK} {E : XK} {v0 v1 v2 : V} {q0 : Addr} {us0 : List V} (e0 : v2 = .ref q0) (hq : H q0 = some (.tup us0)) (h : ∀ (x dx : Addr) (H' : Hp), New x (.ins T.a_CallRow dx (fsCallRow v0 v1 v2)) H H' → Q (.ref x) H') : kMake T.a_CallRow (spInitCallRow T) [] E [v0, v1, v2] H Q := by
  intro x dx hx hd hne
  refine ⟨x, dx, v0, v1, v2, rfl, upd_same, ⟨q0, us0, e0, by rw [upd_ne (ne_of_none hq hx), upd_ne (ne_of_none hq hd)]; exact hq⟩, fun H' sb hx' => ⟨rfl, h x dx H' ⟨hx, hx', sb.made hx hd⟩⟩⟩
abbrev fsBackRow (v0 : V) : List (Str × V) := putF "atom" v0 []
def spInitBackRow (T : Tx K mg) : Sp := fun vs H Q _ => ∃ (x dx : Addr) (v0 : V), vs = [.ref x, v0] ∧ H x = some (.ins T.a_BackRow dx []) ∧ ∀ H', SameBut x H H' → H' x = some (.ins T.a_BackRow dx (fsBackRow v0)) → Q .non H'
theorem ok_BackRow_init (T : Tx K mg) : FnOk P w K mg base CX0 1 T.f_BackRow_init T.d_BackRow_init ["self", "atom"] (spInitBackRow T) := by
  refine T.F_BackRow_init.ok sc_BackRow_init (fun vs H Q E h => ?_) (fun cdv A outer s H vs Q E hr h => ?_)
  · obtain ⟨x, dx, v0, rfl, _⟩ := h
    rfl
  · obtain ⟨x, dx, v0, rfl, hx, q⟩ := h
    refine ⟨_, (pss_one (ps_fld (pv 0) (pv 1) rfl)), ?_⟩
    have ccl := T.cl_BackRow
    have na0 := T.na_BackRow_atom
    walk_at "sy"
    exact q _ (by walk_at "bt") (by walk_at "look")
def spToldBackRow (T : Tx K mg) : Sp := fun vs H Q _ => ∃ (x dx : Addr) (v0 : V), vs = [.ref x] ∧ H x = some (.ins T.a_BackRow dx (fsBackRow v0)) ∧ ∀ (p : Addr) (H' : Hp), New p (.tup [.str "back", v0]) H H' → Q (.ref p) H'
theorem ok_BackRow_told (T : Tx K mg) : FnOk P w K mg base CX0 1 T.f_BackRow_told T.d_BackRow_told ["self"] (spToldBackRow T) := by
  refine T.F_BackRow_told.ok sc_BackRow_told (fun vs H Q E h => ?_) (fun cdv A outer s H vs Q E hr h => ?_)
  · obtain ⟨x, dx, v0, rfl, _⟩ := h
    rfl
  · obtain ⟨x, dx, v0, rfl, hx, q⟩ := h
    refine ⟨_, (pss_one (ps_ret (pe_tup (pa_cons pe_str (pa_cons (fldK (K := K) rfl (pv 0) rfl) pa_nil))))), ?_⟩
    have ccl := T.cl_BackRow
    have na0 := T.na_BackRow_atom
    walk_at "sy"
    exact q _ _ (by assumption)
theorem use_BackRow {T : Tx K mg} {H : Hp} {Q : VK} {E : XK} {v0 : V} (h : ∀ (x dx : Addr) (H' : Hp), New x (.ins T.a_BackRow dx (fsBackRow v0)) H H' → Q (.ref x) H') : kMake T.a_BackRow (spInitBackRow T) [] E [v0] H Q := by
  intro x dx hx hd hne
  refine ⟨x, dx, v0, rfl, upd_same, fun H' sb hx' => ⟨rfl, h x dx H' ⟨hx, hx', sb.made hx hd⟩⟩⟩
abbrev fsAskRow (v0 : V) : List (Str × V) := putF "name" v0 []
def spInitAskRow (T : Tx K mg) : Sp := fun vs H Q _ => ∃ (x dx : Addr) (v0 : V), vs = [.ref x, v0] ∧ H x = some (.ins T.a_AskRow dx []) ∧ ∀ H', SameBut x H H' → H' x = some (.ins T.a_AskRow dx (fsAskRow v0)) → Q .non H'
theorem ok_AskRow_init (T : Tx K mg) : FnOk P w K mg base CX0 1 T.f_AskRow_init T.d_AskRow_init ["self", "name"] (spInitAskRow T) := by
  refine T.F_AskRow_init.ok sc_AskRow_init (fun vs H Q E h => ?_) (fun cdv A outer s H vs Q E hr h => ?_)
  · obtain ⟨x, dx, v0, rfl, _⟩ := h
    rfl
  · obtain ⟨x, dx, v0, rfl, hx, q⟩ := h
    refine ⟨_, (pss_one (ps_fld (pv 0) (pv 1) rfl)), ?_⟩
    have ccl := T.cl_AskRow
    have na0 := T.na_AskRow_name
    walk_at "sy"
    exact q _ (by walk_at "bt") (by walk_at "look")
def spToldAskRow (T : Tx K mg) : Sp := fun vs H Q _ => ∃ (x dx : Addr) (v0 : V), vs = [.ref x] ∧ H x = some (.ins T.a_AskRow dx (fsAskRow v0)) ∧ ∀ (p : Addr) (H' : Hp), New p (.tup [.str "ask", v0]) H H' → Q (.ref p) H'
theorem ok_AskRow_told (T : Tx K mg) : FnOk P w K mg base CX0 1 T.f_AskRow_told T.d_AskRow_told ["self"] (spToldAskRow T) := by
  refine T.F_AskRow_told.ok sc_AskRow_told (fun vs H Q E h => ?_) (fun cdv A outer s H vs Q E hr h => ?_)
  · obtain ⟨x, dx, v0, rfl, _⟩ := h
    rfl
  · obtain ⟨x, dx, v0, rfl, hx, q⟩ := h
    refine ⟨_, (pss_one (ps_ret (pe_tup (pa_cons pe_str (pa_cons (fldK (K := K) rfl (pv 0) rfl) pa_nil))))), ?_⟩
    have ccl := T.cl_AskRow
    have na0 := T.na_AskRow_name
    walk_at "sy"
    exact q _ _ (by assumption)
theorem use_AskRow {T : Tx K mg} {H : Hp} {Q : VK} {E : XK} {v0 : V} (h : ∀ (x dx : Addr) (H' : Hp), New x (.ins T.a_AskRow dx (fsAskRow v0)) H H' → Q (.ref x) H') : kMake T.a_AskRow (spInitAskRow T) [] E [v0] H Q := by
  intro x dx hx hd hne
  refine ⟨x, dx, v0, rfl, upd_same, fun H' sb hx' => ⟨rfl, h x dx H' ⟨hx, hx', sb.made hx hd⟩⟩⟩
abbrev fsTellRow (v0 : V) : List (Str × V) := putF "atom" v0 []
def spInitTellRow (T : Tx K mg) : Sp := fun vs H Q _ => ∃ (x dx : Addr) (v0 : V), vs = [.ref x, v0] ∧ H x = some (.ins T.a_TellRow dx []) ∧ ∀ H', SameBut x H H' → H' x = some (.ins T.a_TellRow dx (fsTellRow v0)) → Q .non H'
theorem ok_TellRow_init (T : Tx K mg) : FnOk P w K mg base CX0 1 T.f_TellRow_init T.d_TellRow_init ["self", "atom"] (spInitTellRow T) := by
  refine T.F_TellRow_init.ok sc_TellRow_init (fun vs H Q E h => ?_) (fun cdv A outer s H vs Q E hr h => ?_)
  · obtain ⟨x, dx, v0, rfl, _⟩ := h
    rfl
  · obtain ⟨x, dx, v0, rfl, hx, q⟩ := h
    refine ⟨_, (pss_one (ps_fld (pv 0) (pv 1) rfl)), ?_⟩
    have ccl := T.cl_TellRow
    have na0 := T.na_TellRow_atom
    walk_at "sy"
    exact q _ (by walk_at "bt") (by walk_at "look")
def spToldTellRow (T : Tx K mg) : Sp := fun vs H Q _ => ∃ (x dx : Addr) (v0 : V), vs = [.ref x] ∧ H x = some (.ins T.a_TellRow dx (fsTellRow v0)) ∧ ∀ (p : Addr) (H' : Hp), New p (.tup [.str "tell", v0]) H H' → Q (.ref p) H'
theorem ok_TellRow_told (T : Tx K mg) : FnOk P w K mg base CX0 1 T.f_TellRow_told T.d_TellRow_told ["self"] (spToldTellRow T) := by
  refine T.F_TellRow_told.ok sc_TellRow_told (fun vs H Q E h => ?_) (fun cdv A outer s H vs Q E hr h => ?_)
  · obtain ⟨x, dx, v0, rfl, _⟩ := h
    rfl
  · obtain ⟨x, dx, v0, rfl, hx, q⟩ := h
    refine ⟨_, (pss_one (ps_ret (pe_tup (pa_cons pe_str (pa_cons (fldK (K := K) rfl (pv 0) rfl) pa_nil))))), ?_⟩
    have ccl := T.cl_TellRow
    have na0 := T.na_TellRow_atom
    walk_at "sy"
    exact q _ _ (by assumption)
theorem use_TellRow {T : Tx K mg} {H : Hp} {Q : VK} {E : XK} {v0 : V} (h : ∀ (x dx : Addr) (H' : Hp), New x (.ins T.a_TellRow dx (fsTellRow v0)) H H' → Q (.ref x) H') : kMake T.a_TellRow (spInitTellRow T) [] E [v0] H Q := by
  intro x dx hx hd hne
  refine ⟨x, dx, v0, rfl, upd_same, fun H' sb hx' => ⟨rfl, h x dx H' ⟨hx, hx', sb.made hx hd⟩⟩⟩
end
/-! ### classes that only lay their fields (printed by mkcls.py) -/
section
variable {P : Program} {w : World} {K : PySem.W.Frag} {mg : Str → Option Value} {base : Heap}
abbrev fsIfRow (v0 v1 v2 : V) : List (Str × V) := putF "others" v2 (putF "rows" v1 (putF "atom" v0 []))
def spInitIfRow (T : Tx K mg) : Sp := fun vs H Q _ => ∃ (x dx : Addr) (v0 v1 v2 : V), vs = [.ref x, v0, v1, v2] ∧ H x = some (.ins T.a_IfRow dx []) ∧ (∃ (q : Addr) (us : List V), v1 = .ref q ∧ H q = some (.tup us)) ∧ (∃ (q : Addr) (us : List V), v2 = .ref q ∧ H q = some (.tup us)) ∧ ∀ H', SameBut x H H' → H' x = some (.ins T.a_IfRow dx (fsIfRow v0 v1 v2)) → Q .non H'
theorem ok_IfRow_init (T : Tx K mg) : FnOk P w K mg base CX0 1 T.f_IfRow_init T.d_IfRow_init ["self", "atom", "rows", "others"] (spInitIfRow T) := by
  refine T.F_IfRow_init.ok sc_IfRow_init (fun vs H Q E h => ?_) (fun cdv A outer s H vs Q E hr h => ?_)
  · obtain ⟨x, dx, v0, v1, v2, rfl, _⟩ := h
    rfl
  · obtain ⟨x, dx, v0, v1, v2, rfl, hx, ⟨q1, us1, rfl, hq1⟩, ⟨q2, us2, rfl, hq2⟩, q⟩ := h
    refine ⟨_, (pss_cons (ps_fld (pv 0) (pv 1) rfl)
      (pss_cons (ps_fld (pv 0) (pe_callTy (tuple_ofK (K := K) rfl) (by rfl) T.n_tuple PyProof.Rows.boot_tuple (pa_cons (pv 2) pa_nil)) rfl)
      (pss_one (ps_fld (pv 0) (pe_callTy (tuple_ofK (K := K) rfl) (by rfl) T.n_tuple PyProof.Rows.boot_tuple (pa_cons (pv 3) pa_nil)) rfl)))), ?_⟩
    have ccl := T.cl_IfRow
    have na0 := T.na_IfRow_atom
    have na1 := T.na_IfRow_rows
    have na2 := T.na_IfRow_others
    walk_at "sy"
    exact q _ (by walk_at "bt") (by walk_at "look")
theorem use_IfRow {T : Tx K mg} {H : Hp} {Q : VK} {E : XK} {v0 v1 v2 : V} {q1 : Addr} {us1 : List V} (e1 : v1 = .ref q1) (hq1 : H q1 = some (.tup us1)) {q2 : Addr} {us2 : List V} (e2 : v2 = .ref q2) (hq2 : H q2 = some (.tup us2)) (h : ∀ (x dx : Addr) (H' : Hp), New x (.ins T.a_IfRow dx (fsIfRow v0 v1 v2)) H H' → Q (.ref x) H') : kMake T.a_IfRow (spInitIfRow T) [] E [v0, v1, v2] H Q := by
  intro x dx hx hd hne
  refine ⟨x, dx, v0, v1, v2, rfl, upd_same, ⟨q1, us1, e1, by rw [upd_ne (ne_of_none hq1 hx), upd_ne (ne_of_none hq1 hd)]; exact hq1⟩, ⟨q2, us2, e2, by rw [upd_ne (ne_of_none hq2 hx), upd_ne (ne_of_none hq2 hd)]; exact hq2⟩, fun H' sb hx' => ⟨rfl, h x dx H' ⟨hx, hx', sb.made hx hd⟩⟩⟩
abbrev fsWhileRow (v0 v1 : V) : List (Str × V) := putF "rows" v1 (putF "atom" v0 [])
def spInitWhileRow (T : Tx K mg) : Sp := fun vs H Q _ => ∃ (x dx : Addr) (v0 v1 : V), vs = [.ref x, v0, v1] ∧ H x = some (.ins T.a_WhileRow dx []) ∧ (∃ (q : Addr) (us : List V), v1 = .ref q ∧ H q = some (.tup us)) ∧ ∀ H', SameBut x H H' → H' x = some (.ins T.a_WhileRow dx (fsWhileRow v0 v1)) → Q .non H'
theorem ok_WhileRow_init (T : Tx K mg) : FnOk P w K mg base CX0 1 T.f_WhileRow_init T.d_WhileRow_init ["self", "atom", "rows"] (spInitWhileRow T) := by
  refine T.F_WhileRow_init.ok sc_WhileRow_init (fun vs H Q E h => ?_) (fun cdv A outer s H vs Q E hr h => ?_)
  · obtain ⟨x, dx, v0, v1, rfl, _⟩ := h
    rfl
  · obtain ⟨x, dx, v0, v1, rfl, hx, ⟨q1, us1, rfl, hq1⟩, q⟩ := h
    refine ⟨_, (pss_cons (ps_fld (pv 0) (pv 1) rfl)
      (pss_one (ps_fld (pv 0) (pe_callTy (tuple_ofK (K := K) rfl) (by rfl) T.n_tuple PyProof.Rows.boot_tuple (pa_cons (pv 2) pa_nil)) rfl))), ?_⟩
    have ccl := T.cl_WhileRow
    have na0 := T.na_WhileRow_atom
    have na1 := T.na_WhileRow_rows
    walk_at "sy"
    exact q _ (by walk_at "bt") (by walk_at "look")
theorem use_WhileRow {T : Tx K mg} {H : Hp} {Q : VK} {E : XK} {v0 v1 : V} {q1 : Addr} {us1 : List V} (e1 : v1 = .ref q1) (hq1 : H q1 = some (.tup us1)) (h : ∀ (x dx : Addr) (H' : Hp), New x (.ins T.a_WhileRow dx (fsWhileRow v0 v1)) H H' → Q (.ref x) H') : kMake T.a_WhileRow (spInitWhileRow T) [] E [v0, v1] H Q := by
  intro x dx hx hd hne
  refine ⟨x, dx, v0, v1, rfl, upd_same, ⟨q1, us1, e1, by rw [upd_ne (ne_of_none hq1 hx), upd_ne (ne_of_none hq1 hd)]; exact hq1⟩, fun H' sb hx' => ⟨rfl, h x dx H' ⟨hx, hx', sb.made hx hd⟩⟩⟩
abbrev fsRecord (v0 v1 : V) : List (Str × V) := putF "fields" v1 (putF "name" v0 [])
def spInitRecord (T : Tx K mg) : Sp := fun vs H Q _ => ∃ (x dx : Addr) (v0 v1 : V), vs = [.ref x, v0, v1] ∧ H x = some (.ins T.a_Record dx []) ∧ (∃ (q : Addr) (us : List V), v1 = .ref q ∧ H q = some (.tup us)) ∧ ∀ H', SameBut x H H' → H' x = some (.ins T.a_Record dx (fsRecord v0 v1)) → Q .non H'
theorem ok_Record_init (T : Tx K mg) : FnOk P w K mg base CX0 1 T.f_Record_init T.d_Record_init ["self", "name", "fields"] (spInitRecord T) := by
  refine T.F_Record_init.ok sc_Record_init (fun vs H Q E h => ?_) (fun cdv A outer s H vs Q E hr h => ?_)
  · obtain ⟨x, dx, v0, v1, rfl, _⟩ := h
    rfl
  · obtain ⟨x, dx, v0, v1, rfl, hx, ⟨q1, us1, rfl, hq1⟩, q⟩ := h
    refine ⟨_, (pss_cons (ps_fld (pv 0) (pv 1) rfl)
      (pss_one (ps_fld (pv 0) (pe_callTy (tuple_ofK (K := K) rfl) (by rfl) T.n_tuple PyProof.Rows.boot_tuple (pa_cons (pv 2) pa_nil)) rfl))), ?_⟩
    have ccl := T.cl_Record
    have na0 := T.na_Record_name
    have na1 := T.na_Record_fields
    walk_at "sy"
    exact q _ (by walk_at "bt") (by walk_at "look")
theorem use_Record {T : Tx K mg} {H : Hp} {Q : VK} {E : XK} {v0 v1 : V} {q1 : Addr} {us1 : List V} (e1 : v1 = .ref q1) (hq1 : H q1 = some (.tup us1)) (h : ∀ (x dx : Addr) (H' : Hp), New x (.ins T.a_Record dx (fsRecord v0 v1)) H H' → Q (.ref x) H') : kMake T.a_Record (spInitRecord T) [] E [v0, v1] H Q := by
  intro x dx hx hd hne
  refine ⟨x, dx, v0, v1, rfl, upd_same, ⟨q1, us1, e1, by rw [upd_ne (ne_of_none hq1 hx), upd_ne (ne_of_none hq1 hd)]; exact hq1⟩, fun H' sb hx' => ⟨rfl, h x dx H' ⟨hx, hx', sb.made hx hd⟩⟩⟩
abbrev fsHelper (v0 v1 v2 v3 : V) : List (Str × V) := putF "rows" v3 (putF "gives" v2 (putF "params" v1 (putF "name" v0 [])))
def spInitHelper (T : Tx K mg) : Sp := fun vs H Q _ => ∃ (x dx : Addr) (v0 v1 v2 v3 : V), vs = [.ref x, v0, v1, v2, v3] ∧ H x = some (.ins T.a_Helper dx []) ∧ (∃ (q : Addr) (us : List V), v1 = .ref q ∧ H q = some (.tup us)) ∧ (∃ (q : Addr) (us : List V), v3 = .ref q ∧ H q = some (.tup us)) ∧ ∀ H', SameBut x H H' → H' x = some (.ins T.a_Helper dx (fsHelper v0 v1 v2 v3)) → Q .non H'
theorem ok_Helper_init (T : Tx K mg) : FnOk P w K mg base CX0 1 T.f_Helper_init T.d_Helper_init ["self", "name", "params", "gives", "rows"] (spInitHelper T) := by
  refine T.F_Helper_init.ok sc_Helper_init (fun vs H Q E h => ?_) (fun cdv A outer s H vs Q E hr h => ?_)
  · obtain ⟨x, dx, v0, v1, v2, v3, rfl, _⟩ := h
    rfl
  · obtain ⟨x, dx, v0, v1, v2, v3, rfl, hx, ⟨q1, us1, rfl, hq1⟩, ⟨q3, us3, rfl, hq3⟩, q⟩ := h
    refine ⟨_, (pss_cons (ps_fld (pv 0) (pv 1) rfl)
      (pss_cons (ps_fld (pv 0) (pe_callTy (tuple_ofK (K := K) rfl) (by rfl) T.n_tuple PyProof.Rows.boot_tuple (pa_cons (pv 2) pa_nil)) rfl)
      (pss_cons (ps_fld (pv 0) (pv 3) rfl)
      (pss_one (ps_fld (pv 0) (pe_callTy (tuple_ofK (K := K) rfl) (by rfl) T.n_tuple PyProof.Rows.boot_tuple (pa_cons (pv 4) pa_nil)) rfl))))), ?_⟩
    have ccl := T.cl_Helper
    have na0 := T.na_Helper_name
    have na1 := T.na_Helper_params
    have na2 := T.na_Helper_gives
    have na3 := T.na_Helper_rows
    walk_at "sy"
    exact q _ (by walk_at "bt") (by walk_at "look")
theorem use_Helper {T : Tx K mg} {H : Hp} {Q : VK} {E : XK} {v0 v1 v2 v3 : V} {q1 : Addr} {us1 : List V} (e1 : v1 = .ref q1) (hq1 : H q1 = some (.tup us1)) {q3 : Addr} {us3 : List V} (e3 : v3 = .ref q3) (hq3 : H q3 = some (.tup us3)) (h : ∀ (x dx : Addr) (H' : Hp), New x (.ins T.a_Helper dx (fsHelper v0 v1 v2 v3)) H H' → Q (.ref x) H') : kMake T.a_Helper (spInitHelper T) [] E [v0, v1, v2, v3] H Q := by
  intro x dx hx hd hne
  refine ⟨x, dx, v0, v1, v2, v3, rfl, upd_same, ⟨q1, us1, e1, by rw [upd_ne (ne_of_none hq1 hx), upd_ne (ne_of_none hq1 hd)]; exact hq1⟩, ⟨q3, us3, e3, by rw [upd_ne (ne_of_none hq3 hx), upd_ne (ne_of_none hq3 hd)]; exact hq3⟩, fun H' sb hx' => ⟨rfl, h x dx H' ⟨hx, hx', sb.made hx hd⟩⟩⟩
abbrev fsProgram (v0 v1 : V) : List (Str × V) := putF "helpers" v1 (putF "records" v0 [])
def spInitProgram (T : Tx K mg) : Sp := fun vs H Q _ => ∃ (x dx : Addr) (v0 v1 : V), vs = [.ref x, v0, v1] ∧ H x = some (.ins T.a_Program dx []) ∧ (∃ (q : Addr) (us : List V), v0 = .ref q ∧ H q = some (.tup us)) ∧ (∃ (q : Addr) (us : List V), v1 = .ref q ∧ H q = some (.tup us)) ∧ ∀ H', SameBut x H H' → H' x = some (.ins T.a_Program dx (fsProgram v0 v1)) → Q .non H'
theorem ok_Program_init (T : Tx K mg) : FnOk P w K mg base CX0 1 T.f_Program_init T.d_Program_init ["self", "records", "helpers"] (spInitProgram T) := by
  refine T.F_Program_init.ok sc_Program_init (fun vs H Q E h => ?_) (fun cdv A outer s H vs Q E hr h => ?_)
  · obtain ⟨x, dx, v0, v1, rfl, _⟩ := h
    rfl
  · obtain ⟨x, dx, v0, v1, rfl, hx, ⟨q0, us0, rfl, hq0⟩, ⟨q1, us1, rfl, hq1⟩, q⟩ := h
    refine ⟨_, (pss_cons (ps_fld (pv 0) (pe_callTy (tuple_ofK (K := K) rfl) (by rfl) T.n_tuple PyProof.Rows.boot_tuple (pa_cons (pv 1) pa_nil)) rfl)
      (pss_one (ps_fld (pv 0) (pe_callTy (tuple_ofK (K := K) rfl) (by rfl) T.n_tuple PyProof.Rows.boot_tuple (pa_cons (pv 2) pa_nil)) rfl))), ?_⟩
    have ccl := T.cl_Program
    have na0 := T.na_Program_records
    have na1 := T.na_Program_helpers
    walk_at "sy"
    exact q _ (by walk_at "bt") (by walk_at "look")
theorem use_Program {T : Tx K mg} {H : Hp} {Q : VK} {E : XK} {v0 v1 : V} {q0 : Addr} {us0 : List V} (e0 : v0 = .ref q0) (hq0 : H q0 = some (.tup us0)) {q1 : Addr} {us1 : List V} (e1 : v1 = .ref q1) (hq1 : H q1 = some (.tup us1)) (h : ∀ (x dx : Addr) (H' : Hp), New x (.ins T.a_Program dx (fsProgram v0 v1)) H H' → Q (.ref x) H') : kMake T.a_Program (spInitProgram T) [] E [v0, v1] H Q := by
  intro x dx hx hd hne
  refine ⟨x, dx, v0, v1, rfl, upd_same, ⟨q0, us0, e0, by rw [upd_ne (ne_of_none hq0 hx), upd_ne (ne_of_none hq0 hd)]; exact hq0⟩, ⟨q1, us1, e1, by rw [upd_ne (ne_of_none hq1 hx), upd_ne (ne_of_none hq1 hd)]; exact hq1⟩, fun H' sb hx' => ⟨rfl, h x dx H' ⟨hx, hx', sb.made hx hd⟩⟩⟩
end
end
section

local macro_rules | `(tactic| walk_at "use") => `(tactic| ((with_reducible apply use_SetRow); intro x dx H' n))
local macro_rules | `(tactic| walk_at "use") => `(tactic| ((with_reducible apply use_MakeRow); (· exact rfl); (· walk_at "look"); intro x dx H' n))
local macro_rules | `(tactic| walk_at "use") => `(tactic| ((with_reducible apply use_NoneRow); intro x dx H' n))
local macro_rules | `(tactic| walk_at "use") => `(tactic| ((with_reducible apply use_GiveRow); intro x dx H' n))
local macro_rules | `(tactic| walk_at "use") => `(tactic| ((with_reducible apply use_TakeRow); intro x dx H' n))
local macro_rules | `(tactic| walk_at "use") => `(tactic| ((with_reducible apply use_FillRow); intro x dx H' n))
local macro_rules | `(tactic| walk_at "use") => `(tactic| ((with_reducible apply use_SwapRow); intro x dx H' n))
local macro_rules | `(tactic| walk_at "use") => `(tactic| ((with_reducible apply use_GetRow); intro x dx H' n))
local macro_rules | `(tactic| walk_at "use") => `(tactic| ((with_reducible apply use_PutRow); intro x dx H' n))
local macro_rules | `(tactic| walk_at "use") => `(tactic| ((with_reducible apply use_HasRow); intro x dx H' n))
local macro_rules | `(tactic| walk_at "use") => `(tactic| ((with_reducible apply use_DropRow); intro x dx H' n))
local macro_rules | `(tactic| walk_at "use") => `(tactic| ((with_reducible apply use_LendRow); intro x dx H' n))
local macro_rules | `(tactic| walk_at "use") => `(tactic| ((with_reducible apply use_StepRow); intro x dx H' n))
local macro_rules | `(tactic| walk_at "use") => `(tactic| ((with_reducible apply use_CallRow); (· exact rfl); (· walk_at "look"); intro x dx H' n))
local macro_rules | `(tactic| walk_at "use") => `(tactic| ((with_reducible apply use_BackRow); intro x dx H' n))
local macro_rules | `(tactic| walk_at "use") => `(tactic| ((with_reducible apply use_AskRow); intro x dx H' n))
local macro_rules | `(tactic| walk_at "use") => `(tactic| ((with_reducible apply use_TellRow); intro x dx H' n))
local macro_rules | `(tactic| walk_at "use") => `(tactic| ((with_reducible apply use_IfRow); (· exact rfl); (· walk_at "look"); (· exact rfl); (· walk_at "look"); intro x dx H' n))
local macro_rules | `(tactic| walk_at "use") => `(tactic| ((with_reducible apply use_WhileRow); (· exact rfl); (· walk_at "look"); intro x dx H' n))
local macro_rules | `(tactic| walk_at "use") => `(tactic| ((with_reducible apply use_Record); (· exact rfl); (· walk_at "look"); intro x dx H' n))
local macro_rules | `(tactic| walk_at "use") => `(tactic| ((with_reducible apply use_Helper); (· exact rfl); (· walk_at "look"); (· exact rfl); (· walk_at "look"); intro x dx H' n))
local macro_rules | `(tactic| walk_at "use") => `(tactic| ((with_reducible apply use_Program); (· exact rfl); (· walk_at "look"); (· exact rfl); (· walk_at "look"); intro x dx H' n))
section
variable {P : Program} {w : World} {K : PySem.W.Frag} {mg : Str → Option Value} {base : Heap}
/-- a row as an object -/
def RowAt (T : Tx K mg) (H : Hp) : Rw → V → Prop
  | .set x0 x1 x2 x3, v => ∃ (p dx : Addr) (v0 v1 v2 v3 : V), v = .ref p ∧ H p = some (.ins T.a_SetRow dx (fsSetRow v0 v1 v2 v3)) ∧ IsD H (Dt.str x0) v0 ∧ IsD H (atD x1) v1 ∧ IsD H (Dt.str x2) v2 ∧ IsD H (atD x3) v3
  | .make x0 x1 x2, v => ∃ (p dx : Addr) (v0 v1 v2 : V), v = .ref p ∧ H p = some (.ins T.a_MakeRow dx (fsMakeRow v0 v1 v2)) ∧ IsD H (Dt.str x0) v0 ∧ IsD H (Dt.str x1) v1 ∧ IsD H (Dt.tup (x2.map atD)) v2
  | .non x0 x1, v => ∃ (p dx : Addr) (v0 v1 : V), v = .ref p ∧ H p = some (.ins T.a_NoneRow dx (fsNoneRow v0 v1)) ∧ IsD H (Dt.str x0) v0 ∧ IsD H (Dt.str x1) v1
  | .give x0 x1, v => ∃ (p dx : Addr) (v0 v1 : V), v = .ref p ∧ H p = some (.ins T.a_GiveRow dx (fsGiveRow v0 v1)) ∧ IsD H (Dt.str x0) v0 ∧ IsD H (Dt.str x1) v1
  | .take x0 x1, v => ∃ (p dx : Addr) (v0 v1 : V), v = .ref p ∧ H p = some (.ins T.a_TakeRow dx (fsTakeRow v0 v1)) ∧ IsD H (Dt.str x0) v0 ∧ IsD H (pathD x1) v1
  | .fill x0 x1, v => ∃ (p dx : Addr) (v0 v1 : V), v = .ref p ∧ H p = some (.ins T.a_FillRow dx (fsFillRow v0 v1)) ∧ IsD H (pathD x0) v0 ∧ IsD H (Dt.str x1) v1
  | .swap x0 x1, v => ∃ (p dx : Addr) (v0 v1 : V), v = .ref p ∧ H p = some (.ins T.a_SwapRow dx (fsSwapRow v0 v1)) ∧ IsD H (Dt.str x0) v0 ∧ IsD H (pathD x1) v1
  | .get x0 x1, v => ∃ (p dx : Addr) (v0 v1 : V), v = .ref p ∧ H p = some (.ins T.a_GetRow dx (fsGetRow v0 v1)) ∧ IsD H (Dt.str x0) v0 ∧ IsD H (pathD x1) v1
  | .put x0 x1, v => ∃ (p dx : Addr) (v0 v1 : V), v = .ref p ∧ H p = some (.ins T.a_PutRow dx (fsPutRow v0 v1)) ∧ IsD H (pathD x0) v0 ∧ IsD H (atD x1) v1
  | .has x0 x1, v => ∃ (p dx : Addr) (v0 v1 : V), v = .ref p ∧ H p = some (.ins T.a_HasRow dx (fsHasRow v0 v1)) ∧ IsD H (Dt.str x0) v0 ∧ IsD H (pathD x1) v1
  | .drop x0, v => ∃ (p dx : Addr) (v0 : V), v = .ref p ∧ H p = some (.ins T.a_DropRow dx (fsDropRow v0)) ∧ IsD H (Dt.str x0) v0
  | .lend x0 x1 x2, v => ∃ (p dx : Addr) (v0 v1 v2 : V), v = .ref p ∧ H p = some (.ins T.a_LendRow dx (fsLendRow v0 v1 v2)) ∧ IsD H (Dt.str (modeS x0)) v0 ∧ IsD H (Dt.str x1) v1 ∧ IsD H (pathD x2) v2
  | .step x0 x1, v => ∃ (p dx : Addr) (v0 v1 : V), v = .ref p ∧ H p = some (.ins T.a_StepRow dx (fsStepRow v0 v1)) ∧ IsD H (Dt.str x0) v0 ∧ IsD H (Dt.str x1) v1
  | .call x0 x1 x2, v => ∃ (p dx : Addr) (v0 v1 v2 : V), v = .ref p ∧ H p = some (.ins T.a_CallRow dx (fsCallRow v0 v1 v2)) ∧ IsD H (optD x0) v0 ∧ IsD H (Dt.str x1) v1 ∧ IsD H (Dt.tup (x2.map gvD)) v2
  | .back x0, v => ∃ (p dx : Addr) (v0 : V), v = .ref p ∧ H p = some (.ins T.a_BackRow dx (fsBackRow v0)) ∧ IsD H (atD x0) v0
  | .ask x0, v => ∃ (p dx : Addr) (v0 : V), v = .ref p ∧ H p = some (.ins T.a_AskRow dx (fsAskRow v0)) ∧ IsD H (Dt.str x0) v0
  | .tell x0, v => ∃ (p dx : Addr) (v0 : V), v = .ref p ∧ H p = some (.ins T.a_TellRow dx (fsTellRow v0)) ∧ IsD H (atD x0) v0
theorem RowAt.keep {T : Tx K mg} {H H' : Hp} (k : Keep H H') : ∀ {r : Rw} {v : V}, RowAt T H r v → RowAt T H' r v
  | .set _ _ _ _, _, ⟨p, dx, v0, v1, v2, v3, e, h, h0, h1, h2, h3⟩ => ⟨p, dx, v0, v1, v2, v3, e, k _ _ h trivial, h0.keep k, h1.keep k, h2.keep k, h3.keep k⟩
  | .make _ _ _, _, ⟨p, dx, v0, v1, v2, e, h, h0, h1, h2⟩ => ⟨p, dx, v0, v1, v2, e, k _ _ h trivial, h0.keep k, h1.keep k, h2.keep k⟩
  | .non _ _, _, ⟨p, dx, v0, v1, e, h, h0, h1⟩ => ⟨p, dx, v0, v1, e, k _ _ h trivial, h0.keep k, h1.keep k⟩
  | .give _ _, _, ⟨p, dx, v0, v1, e, h, h0, h1⟩ => ⟨p, dx, v0, v1, e, k _ _ h trivial, h0.keep k, h1.keep k⟩
  | .take _ _, _, ⟨p, dx, v0, v1, e, h, h0, h1⟩ => ⟨p, dx, v0, v1, e, k _ _ h trivial, h0.keep k, h1.keep k⟩
  | .fill _ _, _, ⟨p, dx, v0, v1, e, h, h0, h1⟩ => ⟨p, dx, v0, v1, e, k _ _ h trivial, h0.keep k, h1.keep k⟩
  | .swap _ _, _, ⟨p, dx, v0, v1, e, h, h0, h1⟩ => ⟨p, dx, v0, v1, e, k _ _ h trivial, h0.keep k, h1.keep k⟩
  | .get _ _, _, ⟨p, dx, v0, v1, e, h, h0, h1⟩ => ⟨p, dx, v0, v1, e, k _ _ h trivial, h0.keep k, h1.keep k⟩
  | .put _ _, _, ⟨p, dx, v0, v1, e, h, h0, h1⟩ => ⟨p, dx, v0, v1, e, k _ _ h trivial, h0.keep k, h1.keep k⟩
  | .has _ _, _, ⟨p, dx, v0, v1, e, h, h0, h1⟩ => ⟨p, dx, v0, v1, e, k _ _ h trivial, h0.keep k, h1.keep k⟩
  | .drop _, _, ⟨p, dx, v0, e, h, h0⟩ => ⟨p, dx, v0, e, k _ _ h trivial, h0.keep k⟩
  | .lend _ _ _, _, ⟨p, dx, v0, v1, v2, e, h, h0, h1, h2⟩ => ⟨p, dx, v0, v1, v2, e, k _ _ h trivial, h0.keep k, h1.keep k, h2.keep k⟩
  | .step _ _, _, ⟨p, dx, v0, v1, e, h, h0, h1⟩ => ⟨p, dx, v0, v1, e, k _ _ h trivial, h0.keep k, h1.keep k⟩
  | .call _ _ _, _, ⟨p, dx, v0, v1, v2, e, h, h0, h1, h2⟩ => ⟨p, dx, v0, v1, v2, e, k _ _ h trivial, h0.keep k, h1.keep k, h2.keep k⟩
  | .back _, _, ⟨p, dx, v0, e, h, h0⟩ => ⟨p, dx, v0, e, k _ _ h trivial, h0.keep k⟩
  | .ask _, _, ⟨p, dx, v0, e, h, h0⟩ => ⟨p, dx, v0, e, k _ _ h trivial, h0.keep k⟩
  | .tell _, _, ⟨p, dx, v0, e, h, h0⟩ => ⟨p, dx, v0, e, k _ _ h trivial, h0.keep k⟩
def isBox : Rw → Bool
  | .set _ _ _ _ => false
  | .make _ _ _ => true
  | .non _ _ => true
  | .give _ _ => true
  | .take _ _ => true
  | .fill _ _ => true
  | .swap _ _ => true
  | .get _ _ => true
  | .put _ _ => true
  | .has _ _ => true
  | .drop _ => true
  | .lend _ _ _ => false
  | .step _ _ => false
  | .call _ _ _ => false
  | .back _ => false
  | .ask _ => false
  | .tell _ => false
def spRow (T : Tx K mg) (f : Rw → Bool) : Sp := fun vs H Q _ => ∃ (v : V) (r : Rw), vs = [v] ∧ IsD H (toldD r) v ∧ f r = true ∧ ∀ (H' : Hp) (v' : V), Same H H' → RowAt T H' r v' → Q v' H'
theorem FnOk_or {k : Nat} {f : Addr} {fd : FuncData} {ps : List Str} {sp sp1 sp2 : Sp} (F1 : FnOk P w K mg base CX0 k f fd ps sp1) (F2 : FnOk P w K mg base CX0 k f fd ps sp2) (h : ∀ vs H Q E, sp vs H Q E → sp1 vs H Q E ∨ sp2 vs H Q E) : FnOk P w K mg base CX0 k f fd ps sp :=
  ⟨fun vs H Q E q => (h _ _ _ _ q).elim (F1.len vs H Q E) (F2.len vs H Q E), fun A outer s H args us vs Q E hr he hb hv hs => (h _ _ _ _ hs).elim (F1.run A outer s H args us vs Q E hr he hb hv) (F2.run A outer s H args us vs Q E hr he hb hv)⟩
/-- the words that row_of asks for ahead of the boxes -/
theorem box_word {r : Rw} (h : isBox r = true) : ∃ (w : Str) (ds : List Dt), toldD r = .tup (.str w :: ds) ∧ ¬ w = Str.ofString "if" ∧ ¬ w = Str.ofString "while" ∧ ¬ w = Str.ofString "set" ∧ ¬ w = Str.ofString "look" ∧ ¬ w = Str.ofString "hand" ∧ ¬ w = Str.ofString "step" ∧ ¬ w = Str.ofString "call" ∧ ¬ w = Str.ofString "back" ∧ ¬ w = Str.ofString "ask" ∧ ¬ w = Str.ofString "tell" := by
  cases r <;> first | (cases h; done) | exact ⟨_, _, rfl, by decide +kernel, by decide +kernel, by decide +kernel, by decide +kernel, by decide +kernel, by decide +kernel, by decide +kernel, by decide +kernel, by decide +kernel, by decide +kernel⟩
end
/-! ### rows, blocks, records, helpers: data and objects -/
inductive El where
  | row (r : Rw)
  | iff (a : At) (rs os : List El)
  | whl (a : At) (rs : List El)
  | rcd (n : Str) (fs : List Dt)
  | hel (n : Str) (ps : List Dt) (g : Option Str) (rs : List El)
mutual
def elD : El → Dt
  | .row r => toldD r
  | .iff a rs os => .tup [.str "if", atD a, .tup (elDs rs), .tup (elDs os)]
  | .whl a rs => .tup [.str "while", atD a, .tup (elDs rs)]
  | .rcd n fs => .tup [.str "record", .str n, .tup fs]
  | .hel n ps g rs => .tup [.str "helper", .str n, .tup ps, optD g, .tup (elDs rs)]
def elDs : List El → List Dt
  | [] => []
  | r :: rs => elD r :: elDs rs
end
theorem elDs_eq : ∀ rs : List El, elDs rs = rs.map elD
  | [] => rfl
  | r :: rs => by
    show elD r :: elDs rs = elD r :: rs.map elD
    rw [elDs_eq rs]
theorem elDs_snoc (rs : List El) (r : El) : elDs (rs ++ [r]) = elDs rs ++ [elD r] := by rw [elDs_eq, elDs_eq, List.map_append]; rfl
theorem elDs_len (rs : List El) : (elDs rs).length = rs.length := by rw [elDs_eq, List.length_map]
theorem elD_at {rs : List El} {i : Nat} {d : Dt} (h : (elDs rs)[i]? = some d) : ∃ r, rs[i]? = some r ∧ d = elD r := by
  rw [elDs_eq, List.getElem?_map] at h
  obtain ⟨r, h1, h2⟩ := Option.map_eq_some_iff.mp h
  exact ⟨r, h1, h2.symm⟩
/-- at most d within one another -/
def okE : Nat → El → Prop
  | _, .row _ => True
  | _, .rcd _ _ => True
  | 0, .iff _ _ _ => False
  | 0, .whl _ _ => False
  | 0, .hel _ _ _ _ => False
  | d + 1, .iff _ rs os => rs.length ≤ 1000 ∧ os.length ≤ 1000 ∧ (∀ r ∈ rs, okE d r) ∧ ∀ r ∈ os, okE d r
  | d + 1, .whl _ rs => rs.length ≤ 1000 ∧ ∀ r ∈ rs, okE d r
  | d + 1, .hel _ _ _ rs => rs.length ≤ 1000 ∧ ∀ r ∈ rs, okE d r
theorem okE_up : ∀ {d : Nat} {r : El}, okE d r → okE (d + 1) r
  | 0, .row _, h => h
  | 0, .rcd _ _, h => h
  | _ + 1, .row _, h => h
  | _ + 1, .rcd _ _, h => h
  | d + 1, .iff _ rs os, ⟨h2, h3, h4, h5⟩ => ⟨h2, h3, fun r m => okE_up (h4 r m), fun r m => okE_up (h5 r m)⟩
  | d + 1, .whl _ rs, ⟨h2, h3⟩ => ⟨h2, fun r m => okE_up (h3 r m)⟩
  | d + 1, .hel _ _ _ rs, ⟨h2, h3⟩ => ⟨h2, fun r m => okE_up (h3 r m)⟩
theorem okE_le {d : Nat} {r : El} (h : okE d r) : ∀ {e : Nat}, d ≤ e → okE e r
  | 0, l => by
    obtain rfl : d = 0 := by omega
    exact h
  | e + 1, l => by
    by_cases q : d = e + 1
    · rw [← q]
      exact h
    · exact okE_up (okE_le h (by omega))
section
variable {P : Program} {w : World} {K : PySem.W.Frag} {mg : Str → Option Value} {base : Heap}
mutual
def ElAt (T : Tx K mg) (H : Hp) : El → V → Prop
  | .row r, v => RowAt T H r v
  | .iff a rs os, v => ∃ (p dx q1 q2 : Addr) (v0 : V) (us1 us2 : List V), v = .ref p ∧ H p = some (.ins T.a_IfRow dx (fsIfRow v0 (.ref q1) (.ref q2))) ∧ IsD H (atD a) v0 ∧ H q1 = some (.tup us1) ∧ ElsAt T H rs us1 ∧ H q2 = some (.tup us2) ∧ ElsAt T H os us2
  | .whl a rs, v => ∃ (p dx q1 : Addr) (v0 : V) (us1 : List V), v = .ref p ∧ H p = some (.ins T.a_WhileRow dx (fsWhileRow v0 (.ref q1))) ∧ IsD H (atD a) v0 ∧ H q1 = some (.tup us1) ∧ ElsAt T H rs us1
  | .rcd n fs, v => ∃ (p dx : Addr) (v1 : V), v = .ref p ∧ H p = some (.ins T.a_Record dx (fsRecord (.str n) v1)) ∧ IsD H (.tup fs) v1
  | .hel n ps g rs, v => ∃ (p dx q1 : Addr) (v1 v2 : V) (us1 : List V), v = .ref p ∧ H p = some (.ins T.a_Helper dx (fsHelper (.str n) v1 v2 (.ref q1))) ∧ IsD H (.tup ps) v1 ∧ IsD H (optD g) v2 ∧ H q1 = some (.tup us1) ∧ ElsAt T H rs us1
def ElsAt (T : Tx K mg) (H : Hp) : List El → List V → Prop
  | [], us => us = []
  | r :: rs, us => ∃ v u, us = v :: u ∧ ElAt T H r v ∧ ElsAt T H rs u
end
mutual
theorem ElAt.keep {T : Tx K mg} {H H' : Hp} (k : Keep H H') : ∀ {r : El} {v : V}, ElAt T H r v → ElAt T H' r v
  | .row _, _, h => RowAt.keep k h
  | .iff _ _ _, _, ⟨p, dx, q1, q2, v0, us1, us2, e, h, h0, h1, g1, h2, g2⟩ => ⟨p, dx, q1, q2, v0, us1, us2, e, k _ _ h trivial, h0.keep k, k _ _ h1 trivial, ElsAt.keep k g1, k _ _ h2 trivial, ElsAt.keep k g2⟩
  | .whl _ _, _, ⟨p, dx, q1, v0, us1, e, h, h0, h1, g1⟩ => ⟨p, dx, q1, v0, us1, e, k _ _ h trivial, h0.keep k, k _ _ h1 trivial, ElsAt.keep k g1⟩
  | .rcd _ _, _, ⟨p, dx, v1, e, h, h1⟩ => ⟨p, dx, v1, e, k _ _ h trivial, h1.keep k⟩
  | .hel _ _ _ _, _, ⟨p, dx, q1, v1, v2, us1, e, h, h1, h2, h3, g1⟩ => ⟨p, dx, q1, v1, v2, us1, e, k _ _ h trivial, h1.keep k, h2.keep k, k _ _ h3 trivial, ElsAt.keep k g1⟩
theorem ElsAt.keep {T : Tx K mg} {H H' : Hp} (k : Keep H H') : ∀ {rs : List El} {us : List V}, ElsAt T H rs us → ElsAt T H' rs us
  | [], _, h => h
  | _ :: _, _, ⟨v, u, e, h, g⟩ => ⟨v, u, e, ElAt.keep k h, ElsAt.keep k g⟩
end
theorem ElsAt.len {T : Tx K mg} {H : Hp} : ∀ {rs : List El} {us : List V}, ElsAt T H rs us → us.length = rs.length
  | [], _, h => by
    have h : _ = _ := h
    subst h
    rfl
  | _ :: rs, _, ⟨v, u, e, _, h2⟩ => by
    subst e
    simp [ElsAt.len h2]
theorem ElsAt.at {T : Tx K mg} {H : Hp} : ∀ {rs : List El} {us : List V} {i : Nat} {v : V}, ElsAt T H rs us → us[i]? = some v → ∃ r, rs[i]? = some r ∧ ElAt T H r v
  | [], _, i, v, h, e => by
    have h : _ = _ := h
    subst h
    simp at e
  | r :: rs, _, 0, v, ⟨w, u, e, h1, _⟩, h => by
    subst e
    simp at h
    subst h
    exact ⟨r, rfl, h1⟩
  | r :: rs, _, i + 1, v, ⟨w, u, e, _, h2⟩, h => by
    subst e
    obtain ⟨q, q1, q2⟩ := ElsAt.at (i := i) h2 (by simpa using h)
    exact ⟨q, by simpa using q1, q2⟩
theorem ElsAt.snoc {T : Tx K mg} {H : Hp} {r : El} {v : V} (h : ElAt T H r v) : ∀ {rs : List El} {us : List V}, ElsAt T H rs us → ElsAt T H (rs ++ [r]) (us ++ [v])
  | [], _, e => by
    have e : _ = _ := e
    subst e
    exact ⟨v, [], rfl, h, rfl⟩
  | _ :: _, _, ⟨w, u, e, h1, h2⟩ => by
    subst e
    exact ⟨w, _, rfl, h1, ElsAt.snoc h h2⟩
theorem take_snoc {α : Type} {l : List α} {i : Nat} {x : α} (h : l[i]? = some x) : l.take (i + 1) = l.take i ++ [x] := by
  rw [List.take_add_one, h]
  rfl
/-- rows and blocks, at most d within one another -/
def okM : Nat → El → Prop
  | _, .row _ => True
  | _, .rcd _ _ => False
  | _, .hel _ _ _ _ => False
  | 0, .iff _ _ _ => False
  | 0, .whl _ _ => False
  | d + 1, .iff _ rs os => rs.length ≤ 1000 ∧ os.length ≤ 1000 ∧ (∀ r ∈ rs, okM d r) ∧ ∀ r ∈ os, okM d r
  | d + 1, .whl _ rs => rs.length ≤ 1000 ∧ ∀ r ∈ rs, okM d r
theorem okM_ok : ∀ {d : Nat} {r : El}, okM d r → okE d r
  | 0, .row _, _ => trivial
  | _ + 1, .row _, _ => trivial
  | d + 1, .iff _ rs os, ⟨h2, h3, h4, h5⟩ => ⟨h2, h3, fun r m => okM_ok (h4 r m), fun r m => okM_ok (h5 r m)⟩
  | d + 1, .whl _ rs, ⟨h2, h3⟩ => ⟨h2, fun r m => okM_ok (h3 r m)⟩
/-- a row or block made of what it tells -/
def spEl (T : Tx K mg) (d : Nat) : Sp := fun vs H Q _ => ∃ (v : V) (e : El), vs = [v] ∧ IsD H (elD e) v ∧ okM d e ∧ ∀ (H' : Hp) (v' : V), Same H H' → ElAt T H' e v' → Q v' H'
/-- what an element tells -/
def kindE : El → Nat
  | .iff _ _ _ => 0
  | .whl _ _ => 1
  | .rcd _ _ => 2
  | .hel _ _ _ _ => 3
  | .row _ => 4
def spTold (T : Tx K mg) (d : Nat) (n : Nat) : Sp := fun vs H Q _ => ∃ (e : El) (v : V), vs = [v] ∧ ElAt T H e v ∧ okE d e ∧ kindE e = n ∧ ∀ u H', Same H H' → IsD H' (elD e) u → Q u H'
def spAll (T : Tx K mg) (d : Nat) : Sp := fun vs H Q _ => ∃ (p : Addr) (us : List V) (es : List El), vs = [.ref p] ∧ H p = some (.tup us) ∧ ElsAt T H es us ∧ es.length ≤ 1000 ∧ (∀ e ∈ es, okE d e) ∧ ∀ (H' : Hp) (q : Addr) (ws : List V), Same H H' → H' q = some (.tup ws) → IsDs H' (elDs es) ws → Q (.ref q) H'
end
end
section

/-! ### str(x) of a tuple within tuples, whatever is under way: some text, not too long -/
section
open PySem.Spec PyProof.Rows
def ReprB (prog : Program) (w : World) (h₀ : Heap) (d B : Nat) (x : Value) : Prop :=
  ∀ (base : Nat), base + B ≤ sizeLine → ∀ (A : Around) (E : Value → Shared → Prop) (s : Shared) (Q : Str → Shared → Prop), A.units + d < cLine → s.heap = h₀ →
    (∀ (t : Str) (tk : Tok), t.length ≤ B → Q t { s with toks := tk }) → wpAny (model prog w) A (pyReprUnder base x) Q E s
theorem ReprB.of_is {prog : Program} {w : World} {x : Value} {t : Str} {h₀ : Heap} {d B : Nat} (h : ReprIs prog w x t) (hl : t.length ≤ B) : ReprB prog w h₀ d B x :=
  fun base hb A E s Q _ _ hQ => h base (by omega) A E s Q fun tk => hQ t tk hl
theorem ReprB.up {prog : Program} {w : World} {x : Value} {h₀ : Heap} {d d' B : Nat} (h : ReprB prog w h₀ d B x) (l : d ≤ d') : ReprB prog w h₀ d' B x :=
  fun base hb A E s Q hu hh hQ => h base hb A E s Q (by omega) hh hQ
inductive ReprAllB (prog : Program) (w : World) (h₀ : Heap) (d : Nat) : List Value → Nat → Prop
  | nil : ReprAllB prog w h₀ d [] 0
  | cons {x : Value} {l : List Value} {B C : Nat} : ReprB prog w h₀ d B x → ReprAllB prog w h₀ d l C → ReprAllB prog w h₀ d (x :: l) (B + 2 + C)
theorem ReprAllB.up {prog : Program} {w : World} {h₀ : Heap} {d d' : Nat} (l : d ≤ d') : ∀ {xs : List Value} {C : Nat}, ReprAllB prog w h₀ d xs C → ReprAllB prog w h₀ d' xs C
  | _, _, .nil => .nil
  | _, _, .cons h r => .cons (h.up l) (ReprAllB.up l r)
section
variable {prog : Program} {w : World} {A : Around} {E : Value → Shared → Prop} {h₀ : Heap} {d : Nat}
theorem anyUnder {M : Model} {s : Shared} {self : Value} {Q : Bool → Shared → Prop} (h : ∀ b, Q b s) : wpAny M A (Builtin.Tuple.tupleReprUnderWay self) Q E s := by
  rw [tupleReprUnderWay_eq]
  exact wpAny_bind (wpAny_stack_any fun st => wpAny_pure (h _))
theorem tupFoldB (hu : A.units + d < cLine) : ∀ (l : List Value) (C : Nat) (acc : Array Str) (n : Nat) (s : Shared) (Q : (Array Str × Nat) → Shared → Prop), ReprAllB prog w h₀ d l C → n + C ≤ sizeLine → s.heap = h₀ →
    (∀ (ts : List Str) (tk : Tok), ts.length = l.length → piled ts ≤ C → Q ⟨acc ++ ts.toArray, n + piled ts⟩ { s with toks := tk }) →
    wpAny (model prog w) A (forIn l (⟨acc, n⟩ : (Array Str × Nat)) tupBody) Q E s := by
  intro l
  induction l with
  | nil =>
    intro C acc n s Q hT _ _ h
    have h0 := h [] s.toks rfl (Nat.zero_le _)
    simp only [List.forIn_nil]
    exact wpAny_pure (by simpa [piled] using h0)
  | cons x l ih =>
    intro C acc n s Q hT hn hh h
    cases hT with
    | cons hx hl =>
      rename_i B C'
      rw [List.forIn_cons]
      refine wpAny_bind (wpAny_bind (hx (n + 1) (by omega) _ _ _ _ hu hh fun t tk ht => wpAny_pure ?_))
      refine ih C' (acc.push t) (n + (t.length + 2)) _ Q hl (by omega) hh fun ts tk' hl2 hp => ?_
      have h1 := h (t :: ts) tk' (by simp [hl2]) (by rw [piled_cons]; omega)
      have e : n + piled (t :: ts) = n + (t.length + 2) + piled ts := by rw [piled_cons]; omega
      rw [e] at h1
      simpa using h1
theorem way_le : ("(...)" : Str).length ≤ 5 := by decide +kernel
theorem text_le (ts : List Str) : (tupleText ts).length ≤ piled ts + 3 := by
  have e3 : (((if ts.length == 1 then ",)" else ")" : String) : Str)).length ≤ 2 := by split <;> decide +kernel
  have e1 : ((("(" : String) : Str)).length = 1 := rfl
  unfold tupleText
  rw [strLen_append, strLen_append, e1]
  by_cases h : ts = []
  · subst h
    decide +kernel
  · have := join_length_add ts h
    omega
theorem own_tupleB {a : Addr} {o : Obj} {items : Array Value} {n C : Nat} (ha : h₀.get? a = some o) (hd : o.data = .seq items n) (hT : ReprAllB prog w h₀ d items.toList C)
    {s : Shared} {R : Result → Shared → Prop} {base : Nat} {id : String} {rest : List Value} (hcu : (A.under (.builtin id ⟨.ref a :: rest, []⟩)).units = A.units + 1) (hu : A.units + (d + 1) < cLine) (hh : s.heap = h₀)
    (hR : ∀ (t : Str) (u tk : Tok), t.length ≤ 7 + C → R (.ok (.ret (.str t u))) { s with toks := tk }) (hsz : base + (7 + C) ≤ sizeLine) :
    wpOwn (model prog w) A (.builtin id ⟨.ref a :: rest, []⟩) (Builtin.tupleReprAt base ⟨[.ref a], []⟩) (fun fin s' => match fin with | .done f => R (.ok f) s' | .again c' => c'.quiet = true ∧ codeAny (model prog w) A c' R s') (fun e s' => R (.error e) s') s := by
  refine wpOwn_of_wpAny ?_
  rw [tuple_repr_tree]
  refine wpAny_bind (anyUnder fun b => ?_)
  cases b with
  | true =>
    refine PySem.W.KFB.if_so rfl ?_
    refine wpAny_bind (wpAny_rule ?_)
    refine wpAny_bind (wpAny_mkStr (wpAny_pure ?_) (by decide +kernel))
    exact hR "(...)" _ _ (Nat.le_trans way_le (by omega))
  | false =>
    refine PySem.W.KFB.if_not rfl ?_
    unfold tupleReprRest Builtin.Tuple.tupleItemsOf
    refine wpAny_bind (wpAny_bind (wpAny_seqItems (by rw [hh]; exact ha) hd (wpAny_pure ?_)))
    rw [← Array.forIn_toList]
    refine wpAny_bind (tupFoldB (d := d) (by rw [hcu]; omega) _ C _ _ _ _ hT (by omega) hh fun ts tk hl hp => ?_)
    have hlen : ts.length = items.size := by simpa using hl
    have h3 := text_le ts
    have hsz0 : (tupleText ts).length ≤ sizeLine := by omega
    refine wpAny_bind (wpAny_mkStr (wpAny_pure ?_) (by simpa [tupleText, hlen] using hsz0))
    have h1 := hR (tupleText ts) tk (tk + 1) (by omega)
    simpa [tupleText, hlen] using h1
theorem ReprB.tuple {a : Addr} {o : Obj} {items : Array Value} {n C : Nat} (ha : h₀.get? a = some o) (hc : o.cls = .type "tuple") (hd : o.data = .seq items n) (hT : ReprAllB prog w h₀ d items.toList C) : ReprB prog w h₀ (d + 1) (7 + C) (.ref a) := by
  intro base hb A E s Q hu hh hQ
  have hty : s.TypeIs (.ref a) "tuple" := ⟨o, by rw [hh]; exact ha, hc⟩
  exact wpAny_pyReprUnder_ref (by omega) (wpAny_pyReprObjUnder_twin (twin := "tuple.__repr__.under") hty F.slot_tuple_repr rfl (by omega)
    (call_twin_own (F.quiet_tuple_repr_under _) F.entry_tuple_repr_under F.check_tuple_repr_under hty F.slot_tuple_repr (F.args_tuple_repr_1 _)
      (own_tupleB (R := callEnd _ E) ha hd hT (units_under_tuple_repr_under _ _) hu hh (fun t u tk ht => ⟨⟨_, _, rfl⟩, _, _, rfl, hQ t tk ht⟩) hb)))
theorem str_tupleB {s : Shared} {a : Addr} {o : Obj} {items : Array Value} {n C : Nat} {Q : Value → Shared → Prop} (ha : s.heap.get? a = some o) (hc : o.cls = .type "tuple") (hd : o.data = .seq items n)
    (hT : ∀ (prog : Program) (w : World), ReprAllB prog w s.heap d items.toList C) (hu : A.units + (d + 4) < cLine) (hsz : 7 + C ≤ sizeLine)
    (hQ : ∀ (t : Str) (u tk : Tok), t.length ≤ 7 + C → Q (.str t u) { s with toks := tk }) : wpAny (model prog w) A (call (.type "str") [.ref a]) Q E s :=
  callType_new F.called_str (by decide) (F.typeCall_str_1 _) (F.newCall_str_1 _) (fun obj => F.args_object_init_2 obj _) F.entry_str_new
    (meets_str_new (S := fun A' R s' => A'.units + (d + 3) < cLine ∧ s'.heap = s.heap ∧ ∀ (t : Str) (u tk : Tok), t.length ≤ 7 + C → R (.ok (.ret (.str t u))) { s' with toks := tk })
      fun prog' w' A' R s' h => by
        have hty : s'.TypeIs (.ref a) "tuple" := ⟨o, by rw [h.2.1]; exact ha, hc⟩
        refine wpAny_strOf_slot rfl (by show A'.units + 1 + 1 < cLine; have := h.1; omega) hty F.slot_tuple_str F.slot_tuple_repr ?_
        exact wpAny_call (codeAny_call_builtin_own (Code.quiet_builtin _ (by decide +kernel)) F.entry_tuple_repr (F.slot_tuple_repr.check _ _ _ _ _ _ _ _ hty (F.args_tuple_repr_1 _)
          (own_tupleB (base := 0) (R := callEnd _ _) (by rw [h.2.1]; exact ha) hd (by rw [h.2.1]; exact hT prog' w') (units_under_tuple_repr _ _) (by show A'.units + 1 + 1 + (d + 1) < cLine; have := h.1; omega) rfl (fun t u tk ht => ⟨_, _, rfl, h.2.2 t u tk ht⟩) (by omega)))))
    ⟨by show A.units + 1 + (d + 3) < cLine; omega, rfl, fun t u tk ht => ⟨typeIs_str _ _ _, hQ t u tk ht⟩⟩
end
end
/-- signs, at most -/
def lowS (s : Str) : Prop := ∀ c ∈ s.cps.toList, c < 16 ^ 8
mutual
def szD : Dt → Nat
  | .non => 4
  | .int _ => 9
  | .str s => 10 * s.length + 2
  | .tup ds => 7 + szDs ds
def szDs : List Dt → Nat
  | [] => 0
  | d :: ds => szD d + 2 + szDs ds
end
mutual
def lowD : Dt → Prop
  | .non => True
  | .int i => 0 ≤ i ∧ i ≤ 1000002
  | .str s => lowS s
  | .tup ds => lowDs ds
def lowDs : List Dt → Prop
  | [] => True
  | d :: ds => lowD d ∧ lowDs ds
end
theorem szDs_snoc (d : Dt) : ∀ ds : List Dt, szDs (ds ++ [d]) = szDs ds + (szD d + 2)
  | [] => by show szD d + 2 + 0 = 0 + _; omega
  | e :: ds => by
    show szD e + 2 + szDs (ds ++ [d]) = szD e + 2 + szDs ds + _
    rw [szDs_snoc d ds]
    omega
section
open PySem.Spec PyProof.Rows
variable {X : Cx} {pins : List (Addr × Obj)} {σ : L2.St} {H : Hp} {s : Shared}
theorem int_low {i : Int} (h0 : 0 ≤ i) (h1 : i ≤ 1000002) : i.natAbs.log2 < 1920 := by
  have h2 : i.natAbs < 2 ^ 20 := by
    have : (2 : Nat) ^ 20 = 1048576 := by decide
    omega
  by_cases h : i.natAbs = 0
  · rw [h]
    decide
  · have := (Nat.log2_lt (n := i.natAbs) (k := 20) h).mpr h2
    omega
mutual
theorem reprB_of (prog : Program) (w : World) (I : Inv X pins σ H s) : ∀ (d : Dt) (v : V) (u : Value), IsD H d v → RelV v u → lowD d → szD d ≤ sizeLine → ReprB prog w s.heap (dpt d) (szD d) u
  | .non, v, u, h, r, _, _ => by
    obtain rfl : v = .non := h
    obtain rfl : u = .none := r
    exact .of_is ReprIs.none (by show _ ≤ 4; decide +kernel)
  | .int i, v, u, h, r, g, _ => by
    obtain rfl : v = .int i := h
    obtain ⟨t, rfl⟩ := r
    exact .of_is (ReprIs.int t (int_low g.1 g.2)) (Nat.le_trans (PyProof.Rows.toString_length_le (k := 7) g.1 (by decide) (by have := g.2; omega)) (by show 7 ≤ 9; omega))
  | .str z, v, u, h, r, g, hz => by
    obtain rfl : v = .str z := h
    obtain ⟨t, rfl⟩ := r
    have h1 := StrLaws.reprText_len z g
    exact .of_is (ReprIs.str z t (by have h2 : 10 * z.length + 2 ≤ sizeLine := hz; omega)) h1
  | .tup ds, v, u, h, r, g, hz => by
    obtain ⟨p, vs, rfl, hp, hvs⟩ := h
    obtain rfl : u = .ref p := r
    obtain ⟨its, rv, ⟨o, ho, hcl, n, hd⟩, _⟩ := I.tuple (.of hp)
    have hz' : 7 + szDs ds ≤ sizeLine := hz
    have := ReprB.tuple (d := dpts ds) ho hcl hd (reprAllB_of prog w I ds vs its hvs rv g (by omega))
    rw [Nat.add_comm] at this
    exact this
theorem reprAllB_of (prog : Program) (w : World) (I : Inv X pins σ H s) : ∀ (ds : List Dt) (vs : List V) (us : List Value), IsDs H ds vs → Vals vs us → lowDs ds → szDs ds ≤ sizeLine → ReprAllB prog w s.heap (dpts ds) us (szDs ds)
  | [], vs, us, h, r, _, _ => by
    obtain rfl : vs = [] := h
    cases r
    exact .nil
  | d :: ds, vs, us, h, r, g, hz => by
    obtain ⟨v, vr, rfl, h1, h2⟩ := h
    cases r with
    | cons r1 r2 =>
      have hz' : szD d + 2 + szDs ds ≤ sizeLine := hz
      exact .cons ((reprB_of prog w I d v _ h1 r1 g.1 (by omega)).up (Nat.le_max_left _ _)) ((reprAllB_of prog w I ds vr _ h2 r2 g.2 (by omega)).up (Nat.le_max_right _ _))
end
/-- str(x): a number's, a text's, a tuple's -/
theorem call_strM {k : Nat} (hr : Room k X.A) : CallR X (.type "str") (fun xs H Q => ((∃ i, xs = [.int i] ∧ i.natAbs.log2 < 1920 ∧ Q (.str (toString i)) H) ∨ ∃ a, xs = [.str a] ∧ Q (.str a) H) ∨
    ∃ v ds, xs = [v] ∧ IsD H (.tup ds) v ∧ lowDs ds ∧ dpts ds ≤ 50 ∧ 7 + szDs ds ≤ sizeLine ∧ ∀ m : Str, m.length ≤ 7 + szDs ds → Q (.str m) H) := by
  intro pins s σ H xs us Q I r h
  rcases h with h | ⟨v, ds, rfl, ⟨p, vs, rfl, hp, hvs⟩, g, hd, hz, q⟩
  · exact call_strK pins s σ H xs us Q I r h
  obtain ⟨u, rfl, r1⟩ := vals1 r
  obtain rfl : u = .ref p := r1
  obtain ⟨its, rv, ⟨o, ho, hcl, n, hdt⟩, _⟩ := I.tuple (.of hp)
  have hu := hr.units
  exact str_tupleB (d := dpts ds) ho hcl hdt (fun prog w => reprAllB_of prog w I ds vs its hvs rv g (by omega)) (by omega) hz fun t u tk ht => ⟨.str t, H, I.tok _, ⟨u, rfl⟩, q t ht⟩
end
/-! ### texts of rows -/
theorem app_len (a b : Str) : (a ++ b).length = a.length + b.length := by
  show (a.cps ++ b.cps).size = _
  rw [Array.size_append]
  rfl
def strOf : Dt → Str
  | .str s => s
  | _ => Str.ofString ""
def shownS : Dt → Str
  | .int i => Str.ofString (toString i)
  | .str s => s
  | .tup ds => Txt.join (Str.ofString ".") (ds.map strOf)
  | .non => Str.ofString ""
def ShOk : Dt → Prop
  | .int i => 0 ≤ i ∧ i ≤ 1000002
  | .str s => s.length ≤ 20
  | .tup ds => ds.length ≤ 10 ∧ ∀ d ∈ ds, ∃ s, d = .str s ∧ s.length ≤ 20
  | .non => False
theorem sum_le (c : Nat) : ∀ l : List Nat, (∀ x ∈ l, x ≤ c) → l.sum ≤ c * l.length
  | [], _ => by simp
  | x :: l, h => by
    have h1 := h x (List.mem_cons_self ..)
    have h2 := sum_le c l fun y hy => h y (List.mem_cons_of_mem _ hy)
    simp only [List.sum_cons, List.length_cons, Nat.mul_add]
    omega
theorem joinSz {ys : List Str} {s : Str} (h : ∀ y ∈ ys, y.length ≤ 1000) (hl : ys.length ≤ 100) (hs : s.length ≤ 1) : (ys.map (·.length)).sum + ys.length * s.length ≤ 16777216 := by
  have h1 := sum_le 1000 (ys.map (·.length)) fun x hx => by
    obtain ⟨y, hy, rfl⟩ := List.mem_map.mp hx
    exact h y hy
  rw [List.length_map] at h1
  have h2 : ys.length * s.length ≤ 100 * 1 := Nat.mul_le_mul hl hs
  omega
theorem dot_len : (Str.ofString ".").length = 1 := by decide +kernel
theorem blank_len : (Str.ofString " ").length = 1 := by decide +kernel
theorem num_len {i : Int} (h0 : 0 ≤ i) (h1 : i ≤ 1000002) : (Str.ofString (toString i)).length ≤ 7 := PyProof.Rows.toString_length_le h0 (by decide) (by omega)
theorem num_log {i : Int} (h0 : 0 ≤ i) (h1 : i ≤ 1000002) : i.natAbs.log2 < 1920 := by
  have h2 : i.natAbs < 2 ^ 20 := by
    have : (2 : Nat) ^ 20 = 1048576 := by decide
    omega
  have := (Nat.log2_lt (n := i.natAbs) (k := 20))
  by_cases h : i.natAbs = 0
  · rw [h]
    decide
  · have := (this h).mpr h2
    omega
def partsD (r : Rw) : List Dt := match toldD r with
  | .tup ds => ds
  | _ => []
def isPlain : Rw → Bool
  | .set _ _ _ _ => false
  | .make _ _ _ => false
  | .non _ _ => true
  | .give _ _ => true
  | .take _ _ => true
  | .fill _ _ => true
  | .swap _ _ => true
  | .get _ _ => true
  | .put _ _ => true
  | .has _ _ => false
  | .drop _ => true
  | .lend _ _ _ => true
  | .step _ _ => true
  | .call _ _ _ => false
  | .back _ => true
  | .ask _ => true
  | .tell _ => true
def GoodRw : Rw → Prop
  | .make x r as => x.length ≤ 20 ∧ r.length ≤ 20 ∧ as.length ≤ 10 ∧ ∀ a ∈ as, ShOk (atD a)
  | .call n h gs => (∀ s, n = some s → s.length ≤ 20) ∧ h.length ≤ 20 ∧ gs.length ≤ 10 ∧ ∀ g ∈ gs, ShOk (gvD g)
  | r => ∀ d ∈ partsD r, ShOk d
theorem GoodRw.plain {r : Rw} (h : GoodRw r) (p : isPlain r = true) : ∀ d ∈ partsD r, ShOk d := by
  cases r <;> first | exact h | cases p
theorem told_parts (r : Rw) : toldD r = .tup (partsD r) := by cases r <;> rfl
theorem smallDs_of : ∀ {ds : List Dt}, (∀ d ∈ ds, smallD d) → smallDs ds
  | [], _ => trivial
  | d :: ds, h => ⟨h d (List.mem_cons_self ..), smallDs_of fun e he => h e (List.mem_cons_of_mem _ he)⟩
theorem dpts_of {n : Nat} : ∀ {ds : List Dt}, (∀ d ∈ ds, dpt d ≤ n) → dpts ds ≤ n
  | [], _ => Nat.zero_le _
  | d :: ds, h => by
    have h1 := h d (List.mem_cons_self ..)
    have h2 := dpts_of fun e he => h e (List.mem_cons_of_mem _ he)
    simp only [dpts]
    omega
theorem tup_small {ds : List Dt} {n : Nat} (hl : ds.length ≤ 1000) (h : ∀ d ∈ ds, smallD d ∧ dpt d ≤ n) : smallD (.tup ds) ∧ dpt (.tup ds) ≤ n + 1 := by
  have h2 := dpts_of fun d hd => (h d hd).2
  refine ⟨⟨hl, smallDs_of fun d hd => (h d hd).1⟩, ?_⟩
  simp only [dpt]
  omega
theorem shok_small {d : Dt} (h : ShOk d) : smallD d ∧ dpt d ≤ 1 := by
  cases d with
  | non => exact h.elim
  | int i => exact ⟨trivial, Nat.zero_le _⟩
  | str s => exact ⟨trivial, Nat.zero_le _⟩
  | tup ds =>
    have h1 := h.1
    refine tup_small (by omega) fun d hd => ?_
    obtain ⟨s, rfl, _⟩ := h.2 d hd
    exact ⟨trivial, Nat.le_refl _⟩
theorem up2 {d : Dt} (h : smallD d ∧ dpt d ≤ 1) : smallD d ∧ dpt d ≤ 2 := ⟨h.1, by have := h.2; omega⟩
theorem parts_small {r : Rw} (h : GoodRw r) : ∀ d ∈ partsD r, smallD d ∧ dpt d ≤ 2 := by
  cases r with
  | make x0 x1 as =>
    obtain ⟨g0, g1, g2, g3⟩ := h
    intro d hd
    simp only [partsD, toldD, List.mem_cons, List.not_mem_nil, or_false] at hd
    rcases hd with rfl | rfl | rfl | rfl
    · exact ⟨trivial, Nat.zero_le _⟩
    · exact ⟨trivial, Nat.zero_le _⟩
    · exact ⟨trivial, Nat.zero_le _⟩
    · refine tup_small (by rw [List.length_map]; omega) fun e he => ?_
      obtain ⟨a, ha, rfl⟩ := List.mem_map.mp he
      exact shok_small (g3 a ha)
  | call nm x1 gs =>
    obtain ⟨g0, g1, g2, g3⟩ := h
    intro d hd
    simp only [partsD, toldD, List.mem_cons, List.not_mem_nil, or_false] at hd
    rcases hd with rfl | rfl | rfl | rfl
    · exact ⟨trivial, Nat.zero_le _⟩
    · cases nm <;> exact ⟨trivial, Nat.zero_le _⟩
    · exact ⟨trivial, Nat.zero_le _⟩
    · refine tup_small (by rw [List.length_map]; omega) fun e he => ?_
      obtain ⟨a, ha, rfl⟩ := List.mem_map.mp he
      exact shok_small (g3 a ha)
  | _ => exact fun d hd => up2 (shok_small (h d hd))
theorem told_small {r : Rw} (h : GoodRw r) : dpt (toldD r) < 4 ∧ smallD (toldD r) := by
  have hl : (partsD r).length ≤ 1000 := by cases r <;> simp [partsD, toldD]
  have := tup_small hl (parts_small h)
  rw [told_parts]
  exact ⟨by omega, this.1⟩
/-! ### names, atoms, paths, rows as they are drawn -/
instance (s : Str) : Decidable (lowS s) := inferInstanceAs (Decidable (∀ c ∈ s.cps.toList, c < 16 ^ 8))
theorem lowS_app {a b : Str} (h1 : lowS a) (h2 : lowS b) : lowS (a ++ b) := fun c hc => by
  have e : (a ++ b).cps.toList = a.cps.toList ++ b.cps.toList := by
    show (a.cps ++ b.cps).toList = _
    simp
  rw [e] at hc
  rcases List.mem_append.mp hc with hc | hc
  · exact h1 c hc
  · exact h2 c hc
theorem lowS_one {c : Nat} (h : c < 16 ^ 8) : lowS ⟨#[c]⟩ := fun x hx => by
  have hx : x ∈ [c] := hx
  rw [List.mem_singleton.mp hx]
  exact h
/-- the kept words -/
def keptL : List Str := ["record", "helper", "gives", "end", "if", "else", "fi", "while", "od", "set", "has", "make", "none", "give", "take", "fill", "swap", "get", "put", "drop", "look", "hand", "step", "call", "to", "back", "ask", "tell", "num"].map Str.ofString
def letS (s : Str) : Prop := ∀ c ∈ s.cps.toList, 97 ≤ c ∧ c ≤ 122
instance (s : Str) : Decidable (letS s) := inferInstanceAs (Decidable (∀ c ∈ s.cps.toList, 97 ≤ c ∧ c ≤ 122))
theorem letS_app {a b : Str} (h1 : letS a) (h2 : letS b) : letS (a ++ b) := fun c hc => by
  have e : (a ++ b).cps.toList = a.cps.toList ++ b.cps.toList := by
    show (a.cps ++ b.cps).toList = _
    simp
  rw [e] at hc
  rcases List.mem_append.mp hc with hc | hc
  · exact h1 c hc
  · exact h2 c hc
theorem letS_one {c : Nat} (h : 97 ≤ c ∧ c ≤ 122) : letS ⟨#[c]⟩ := fun x hx => by
  have hx : x ∈ [c] := hx
  rw [List.mem_singleton.mp hx]
  exact h
theorem letS.low {s : Str} (h : letS s) : lowS s := fun c hc => by have := h c hc; omega
def nameOk (s : Str) : Prop := letS s ∧ 1 ≤ s.length ∧ s.length ≤ 8 ∧ s ∉ keptL
instance (s : Str) : Decidable (nameOk s) := inferInstanceAs (Decidable (letS s ∧ 1 ≤ s.length ∧ s.length ≤ 8 ∧ s ∉ keptL))
def atOk : At → Prop
  | .num n => n ≤ 1000002
  | .nam s => nameOk s
def pathOk (p : List Str) : Prop := 1 ≤ p.length ∧ p.length ≤ 4 ∧ ∀ s ∈ p, nameOk s
def gvOk : Gv → Prop
  | .at a => atOk a
  | .path p => pathOk p ∧ 2 ≤ p.length
def signL : List Str := ["+", "-", "*", "<", "="].map Str.ofString
def GoodN : Rw → Prop
  | .set x a g b => nameOk x ∧ atOk a ∧ ((g = Str.ofString "" ∧ b = .num 0) ∨ (g ∈ signL ∧ atOk b))
  | .make x r as => nameOk x ∧ nameOk r ∧ 1 ≤ as.length ∧ as.length ≤ 4 ∧ ∀ a ∈ as, atOk a ∨ a = .nam (Str.ofString "none")
  | .non x y => nameOk x ∧ nameOk y
  | .give x y => nameOk x ∧ nameOk y
  | .step x y => nameOk x ∧ nameOk y
  | .take x p => nameOk x ∧ pathOk p
  | .swap x p => nameOk x ∧ pathOk p
  | .get x p => nameOk x ∧ pathOk p
  | .has x p => nameOk x ∧ pathOk p
  | .lend _ x p => nameOk x ∧ pathOk p
  | .fill p x => pathOk p ∧ nameOk x
  | .put p a => pathOk p ∧ atOk a
  | .drop x => nameOk x
  | .ask x => nameOk x
  | .call n h gs => (∀ s, n = some s → nameOk s) ∧ nameOk h ∧ gs.length ≤ 6 ∧ ∀ g ∈ gs, gvOk g
  | .back a => atOk a
  | .tell a => atOk a
theorem nameOk.sh {s : Str} (h : nameOk s) : s.length ≤ 20 ∧ lowS s := ⟨by have := h.2.2.1; omega, h.1.low⟩
def ShL : Dt → Prop
  | .int i => 0 ≤ i ∧ i ≤ 1000002
  | .str s => s.length ≤ 20 ∧ lowS s
  | .tup ds => ds.length ≤ 10 ∧ ∀ d ∈ ds, ∃ s, d = .str s ∧ s.length ≤ 20 ∧ lowS s
  | .non => False
def GoodL : Rw → Prop
  | .make x r as => (x.length ≤ 20 ∧ lowS x) ∧ (r.length ≤ 20 ∧ lowS r) ∧ as.length ≤ 10 ∧ ∀ a ∈ as, ShL (atD a)
  | .call n h gs => (∀ s, n = some s → s.length ≤ 20 ∧ lowS s) ∧ (h.length ≤ 20 ∧ lowS h) ∧ gs.length ≤ 10 ∧ ∀ g ∈ gs, ShL (gvD g)
  | r => ∀ d ∈ partsD r, ShL d
theorem ShL.ok {d : Dt} (h : ShL d) : ShOk d := by
  cases d with
  | non => exact h
  | int i => exact h
  | str s => exact h.1
  | tup ds => exact ⟨h.1, fun d hd => by
      obtain ⟨s, e, l, _⟩ := h.2 d hd
      exact ⟨s, e, l⟩⟩
theorem lowDs_of : ∀ {ds : List Dt}, (∀ d ∈ ds, lowD d) → lowDs ds
  | [], _ => trivial
  | d :: ds, h => ⟨h d (List.mem_cons_self ..), lowDs_of fun e he => h e (List.mem_cons_of_mem _ he)⟩
theorem szDs_le {c : Nat} : ∀ {ds : List Dt}, (∀ d ∈ ds, szD d ≤ c) → szDs ds ≤ (c + 2) * ds.length
  | [], _ => Nat.zero_le _
  | d :: ds, h => by
    have h1 := h d (List.mem_cons_self ..)
    have h2 := szDs_le fun e he => h e (List.mem_cons_of_mem _ he)
    show szD d + 2 + szDs ds ≤ (c + 2) * (ds.length + 1)
    rw [Nat.mul_add]
    omega
theorem szDs_le' {c n : Nat} {ds : List Dt} (h : ∀ d ∈ ds, szD d ≤ c) (hl : ds.length ≤ n) : szDs ds ≤ (c + 2) * n := Nat.le_trans (szDs_le h) (Nat.mul_le_mul (Nat.le_refl _) hl)
theorem ShL.sz {d : Dt} (h : ShL d) : lowD d ∧ szD d ≤ 2100 := by
  cases d with
  | non => exact h.elim
  | int i => exact ⟨h, by show 9 ≤ 2100; omega⟩
  | str s => exact ⟨h.2, by show 10 * s.length + 2 ≤ 2100; have := h.1; omega⟩
  | tup ds =>
    refine ⟨lowDs_of fun d hd => ?_, ?_⟩
    · obtain ⟨s, rfl, _, l⟩ := h.2 d hd
      exact l
    · have := szDs_le' (c := 202) (n := 10) (fun d hd => by
        obtain ⟨s, rfl, l, _⟩ := h.2 d hd
        show 10 * s.length + 2 ≤ 202
        omega) h.1
      show 7 + szDs ds ≤ 2100
      omega
theorem many_sz {ds : List Dt} (h : ∀ d ∈ ds, ShL d) (hl : ds.length ≤ 10) : lowD (.tup ds) ∧ szD (.tup ds) ≤ 22000 := by
  have := szDs_le' (c := 2100) (n := 10) (fun d hd => (h d hd).sz.2) hl
  exact ⟨lowDs_of fun d hd => (h d hd).sz.1, by show 7 + szDs ds ≤ 22000; omega⟩
theorem GoodL.good {r : Rw} (h : GoodL r) : GoodRw r := by
  cases r with
  | make x0 x1 as => exact ⟨h.1.1, h.2.1.1, h.2.2.1, fun a ha => (h.2.2.2 a ha).ok⟩
  | call n x1 gs => exact ⟨fun s hs => (h.1 s hs).1, h.2.1.1, h.2.2.1, fun g hg => (h.2.2.2 g hg).ok⟩
  | _ => exact fun d hd => ShL.ok (h d hd)
theorem GoodL.low {r : Rw} (h : GoodL r) : lowD (toldD r) ∧ szD (toldD r) ≤ 30000 := by
  cases r with
  | make x0 x1 as =>
    obtain ⟨g0, g1, g2, g3⟩ := h
    have hm := many_sz (ds := as.map atD) (fun d hd => by
      obtain ⟨a, ha, rfl⟩ := List.mem_map.mp hd
      exact g3 a ha) (by rw [List.length_map]; exact g2)
    have hw : lowD (.str (Str.ofString "make")) ∧ szD (.str (Str.ofString "make")) ≤ 100 := ⟨by show lowS _; decide +kernel, by show 10 * _ + 2 ≤ 100; decide +kernel⟩
    refine ⟨⟨hw.1, g0.2, g1.2, hm.1, trivial⟩, ?_⟩
    show 7 + (szD (.str (Str.ofString "make")) + 2 + (10 * x0.length + 2 + 2 + (10 * x1.length + 2 + 2 + (szD (.tup (as.map atD)) + 2 + 0)))) ≤ 30000
    omega
  | call nm x1 gs =>
    obtain ⟨g0, g1, g2, g3⟩ := h
    have hm := many_sz (ds := gs.map gvD) (fun d hd => by
      obtain ⟨a, ha, rfl⟩ := List.mem_map.mp hd
      exact g3 a ha) (by rw [List.length_map]; exact g2)
    have hw : lowD (.str (Str.ofString "call")) ∧ szD (.str (Str.ofString "call")) ≤ 100 := ⟨by show lowS _; decide +kernel, by show 10 * _ + 2 ≤ 100; decide +kernel⟩
    have hn : lowD (optD nm) ∧ szD (optD nm) ≤ 300 := by
      cases nm with
      | none => exact ⟨trivial, by show 4 ≤ 300; omega⟩
      | some z => exact ⟨(g0 z rfl).2, by show 10 * z.length + 2 ≤ 300; have := (g0 z rfl).1; omega⟩
    refine ⟨⟨hw.1, hn.1, g1.2, hm.1, trivial⟩, ?_⟩
    show 7 + (szD (.str (Str.ofString "call")) + 2 + (szD (optD nm) + 2 + (10 * x1.length + 2 + 2 + (szD (.tup (gs.map gvD)) + 2 + 0)))) ≤ 30000
    omega
  | _ =>
    rw [told_parts]
    have hm := many_sz h (by simp [partsD, toldD])
    exact ⟨hm.1, by omega⟩
theorem nameOk.shl {s : Str} (h : nameOk s) : ShL (.str s) := h.sh
theorem atOk.shl {a : At} (h : atOk a) : ShL (atD a) := by
  cases a with
  | num n => exact ⟨by omega, by have h : n ≤ 1000002 := h; omega⟩
  | nam s => exact nameOk.sh h
theorem pathOk.shl {p : List Str} (h : pathOk p) : ShL (pathD p) := ⟨by rw [List.length_map]; have := h.2.1; omega, fun d hd => by
  obtain ⟨s, hs, rfl⟩ := List.mem_map.mp hd
  exact ⟨s, rfl, (h.2.2 s hs).sh⟩⟩
theorem gvOk.shl {g : Gv} (h : gvOk g) : ShL (gvD g) := by
  cases g with
  | «at» a => exact atOk.shl h
  | path p => exact pathOk.shl h.1
theorem word_sh {s : Str} (h : decide (s.length ≤ 20 ∧ lowS s) = true) : ShL (.str s) := show s.length ≤ 20 ∧ lowS s from of_decide_eq_true h
theorem mem1 {P : Dt → Prop} {a : Dt} (h1 : P a) : ∀ z ∈ [a], P z := fun z hz => by rw [List.mem_singleton.mp hz]; exact h1
theorem memc {P : Dt → Prop} {a : Dt} {l : List Dt} (h1 : P a) (h2 : ∀ z ∈ l, P z) : ∀ z ∈ a :: l, P z := fun z hz => by
  rcases List.mem_cons.mp hz with rfl | hz
  · exact h1
  · exact h2 z hz
theorem sign_sh {g : Str} (h : g ∈ signL) : ShL (.str g) := by
  have : ∀ g ∈ signL, g.length ≤ 20 ∧ lowS g := by decide +kernel
  exact this g h
theorem GoodN.goodL {r : Rw} (h : GoodN r) : GoodL r := by
  have k : ∀ {s : Str}, decide (s.length ≤ 20 ∧ lowS s) = true → ShL (.str s) := word_sh
  cases r with
  | set x a g b =>
    refine memc (k (by decide +kernel)) (memc h.1.shl (memc h.2.1.shl ?_))
    rcases h.2.2 with ⟨rfl, rfl⟩ | ⟨hg, hb⟩
    · exact memc (k (by decide +kernel)) (mem1 ⟨by decide, by decide⟩)
    · exact memc (sign_sh hg) (mem1 hb.shl)
  | make x r as => exact ⟨h.1.sh, h.2.1.sh, by have := h.2.2.2.1; omega, fun a ha => by
      rcases h.2.2.2.2 a ha with q | rfl
      · exact q.shl
      · exact k (s := Str.ofString "none") (by decide +kernel)⟩
  | call n h2 gs => exact ⟨fun s hs => (h.1 s hs).sh, h.2.1.sh, by have := h.2.2.1; omega, fun g hg => (h.2.2.2 g hg).shl⟩
  | lend b x p => cases b <;> exact memc (k (by decide +kernel)) (memc h.1.shl (mem1 h.2.shl))
  | fill p x => exact memc (k (by decide +kernel)) (memc h.1.shl (mem1 h.2.shl))
  | put p a => exact memc (k (by decide +kernel)) (memc h.1.shl (mem1 h.2.shl))
  | drop x => exact memc (k (by decide +kernel)) (mem1 (nameOk.shl h))
  | ask x => exact memc (k (by decide +kernel)) (mem1 (nameOk.shl h))
  | back a => exact memc (k (by decide +kernel)) (mem1 (atOk.shl h))
  | tell a => exact memc (k (by decide +kernel)) (mem1 (atOk.shl h))
  | _ => exact memc (k (by decide +kernel)) (memc h.1.shl (mem1 h.2.shl))
def kindS (s : Str) : Prop := s = Str.ofString "num" ∨ nameOk s
theorem isds_strs {H : Hp} : ∀ p : List Str, IsDs H (p.map Dt.str) (p.map V.str)
  | [] => rfl
  | s :: r => ⟨_, _, rfl, rfl, isds_strs r⟩
end
section

/-! ### a comprehension over the signs of a text; a tuple of the module; words for them -/
section
variable {K : PySem.W.Frag} {σ : St} {H : Hp} {Q : VK}
theorem k_lcS {z : Str} {g : TG} {tt : TT} {te : TE} {vs : List Nat} (Pv : Addr → Nat → Hp → Prop) (h0 : ∀ D H', New D (.lst []) H H' → Pv D 0 H')
    (hs : ∀ D, H D = none → ∀ (i c : Nat) (H2 : Hp), z.cps.toList[i]? = some c → Pv D i H2 → kTurn g tt te vs σ D (.str ⟨#[c]⟩) H2 (Pv D (i + 1))) (hd : ∀ D, H D = none → ∀ H2, Pv D z.length H2 → Q (.ref D) H2) : kLc (Its z) g tt te vs σ H Q :=
  fun D hD => lc_it walk_str (Pv D) (h0 D _ (New.mk' hD)) (fun _ _ _ _ => trivial) (fun i x H2 H' hi p y => by
    obtain ⟨rfl, c, hc, rfl⟩ := y
    exact hs D hD i c _ (by simpa using hc) p) (hd D hD)
theorem w_iStr {te : TE} {R : It → Hp → Prop} (h : te σ H fun v H1 => ∃ x, v = .str x ∧ R (Its x) H1) : iStr te σ H R := h
theorem w_GT {xs : List V} (h : ∀ a : Addr, (∀ H' : Hp, SqT K H' a xs) → Q (.ref a) H) : tGT K xs σ H Q := h
theorem all_map_true (f : Nat → Bool) (cs : List Nat) : (cs.map f).all id = cs.all f := by rw [List.all_map]; rfl
end
section
variable {σ : St} {H : Hp} {Q : VK}
theorem w_chain {r r' : R2} {ta tb tc : TE} (h : ta σ H fun x H1 => tb σ H1 fun y H2 => r x y H2 fun z H3 => ∃ k, z = .bl k ∧ (if k = true then tc σ H3 fun w' H4 => r' y w' H4 Q else Q (.bl false) H3)) : tChain r r' ta tb tc σ H Q := h
theorem w_sign {c : Nat} {z : Str} {R : Nat → Str → Prop} (h : R c z) : ∃ (c' : Nat) (z' : Str), V.str ⟨#[c]⟩ = .str ⟨#[c']⟩ ∧ V.str z = .str z' ∧ R c' z' := ⟨c, z, rfl, rfl, h⟩
theorem inV_strs (s : Str) : ∀ ys : List Str, inV (.str s) (ys.map V.str) = decide (s ∈ ys)
  | [] => rfl
  | y :: ys => by
    have ih := inV_strs s ys
    unfold inV at ih ⊢
    rw [List.map_cons, List.any_cons, ih]
    show (decide (y = s) || _) = _
    by_cases e : y = s
    · subst e
      simp
    · simp [e, Ne.symm e]
theorem flat_ss (ys : List Str) : (ys.map V.str).all flatV = true := by
  rw [List.all_map]
  exact List.all_eq_true.mpr fun _ _ => rfl
theorem w_inC {K : PySem.W.Frag} {a : Addr} {s : Str} {ys : List Str} (ha : ∀ H' : Hp, SqT K H' a (ys.map V.str)) (h : Q (.bl (decide (s ∈ ys))) H) : rIn K false (.str s) (.ref a) H Q := ⟨a, _, rfl, .inr (ha H), rfl, flat_ss ys, by rw [inV_strs]; exact h⟩
theorem w_ninC {K : PySem.W.Frag} {a : Addr} {s : Str} {ys : List Str} (ha : ∀ H' : Hp, SqT K H' a (ys.map V.str)) (h : Q (.bl (!decide (s ∈ ys))) H) : rIn K true (.str s) (.ref a) H Q := ⟨a, _, rfl, .inr (ha H), rfl, flat_ss ys, by rw [inV_strs]; exact h⟩
end
section
variable {H : Hp}
theorem w_lenStr {z : Str} {P : Str → Prop} (hl : z.length ≤ sizeLine) (h : P z) : ∃ z' : Str, [V.str z] = [.str z'] ∧ z'.length ≤ sizeLine ∧ P z' := ⟨z, rfl, hl, h⟩
theorem w_itS {z : Str} {P : It → Prop} (h : P (Its z)) : ∃ x, V.str z = .str x ∧ P (Its x) := ⟨z, rfl, h⟩
end
/-! ### what words read as -/
abbrev wS (s : String) : Str := Str.ofString s
def figL (cs : List Nat) : Prop := ∀ c ∈ cs, 48 ≤ c ∧ c ≤ 57
instance (cs : List Nat) : Decidable (figL cs) := inferInstanceAs (Decidable (∀ c ∈ cs, 48 ≤ c ∧ c ≤ 57))
def numF (w : Str) : Option Nat :=
  if 1 ≤ w.length ∧ w.length < 8 ∧ figL w.cps.toList ∧ ¬ (w.cps.toList[0]? = some 48 ∧ 1 < w.length) then
    (if PySem.NumText.digitsVal w.cps.toList ≤ 1000002 then some (PySem.NumText.digitsVal w.cps.toList) else none)
  else none
def kindOkB (w : Str) : Bool := decide (w = wS "num" ∨ nameOk w)
def atomF (w : Str) : Option At := if nameOk w then some (.nam w) else (numF w).map .num
def dotS : Str := Str.ofString "."
def pathF (w : Str) : Option (List Str) :=
  if (Txt.split w dotS).length ≤ 4 ∧ ∀ p ∈ Txt.split w dotS, nameOk p then some (Txt.split w dotS) else none
def givenF (w : Str) : Option Gv := if 46 ∈ w.cps.toList then (pathF w).map .path else (atomF w).map .at
def optAll {α : Type} : List (Option α) → Option (List α)
  | [] => some []
  | none :: _ => none
  | some a :: r => (optAll r).map (a :: ·)
def makeAtom (w : Str) : Option At := if w = wS "none" then some (.nam w) else atomF w
def setF : List Str → Option Rw
  | [_, x, a] => (atomF a).map fun a => .set x a (wS "") (.num 0)
  | [_, x, h, p] => if h = wS "has" then (pathF p).map (.has x) else none
  | [_, x, a, g, b] => if g ∈ signL then (match atomF a, atomF b with
    | some a, some b => some (.set x a g b)
    | _, _ => none) else none
  | _ => none
def makeF : List Str → Option Rw
  | _ :: x :: r :: a :: as => if nameOk r then (optAll ((a :: as).map makeAtom)).map (.make x r) else none
  | _ => none
/-- the last two words, where the first of them is that word -/
def lastTwo (k : Str) (ws : List Str) : Option Str := if 1 < ws.length ∧ ws[ws.length - 2]? = some k then ws[ws.length - 1]? else none
def callF : List Str → Option Rw
  | _ :: h :: rest => (match lastTwo (wS "to") rest with
    | some z => if nameOk z then (optAll ((rest.take (rest.length - 2)).map givenF)).map (.call (some z) h) else none
    | none => (optAll (rest.map givenF)).map (.call none h))
  | _ => none
def pairF : List Str → Option Rw
  | [w, x, y] => if w = wS "take" then (pathF y).map (.take x) else if w = wS "swap" then (pathF y).map (.swap x) else if w = wS "get" then (pathF y).map (.get x)
    else if w = wS "look" then (pathF y).map (.lend false x) else if w = wS "hand" then (pathF y).map (.lend true x)
    else if nameOk y then (if w = wS "none" then some (.non x y) else if w = wS "give" then some (.give x y) else if w = wS "step" then some (.step x y) else none) else none
  | _ => none
def intoF : List Str → Option Rw
  | [w, p, y] => (match pathF p with
    | some p => if w = wS "fill" then (if nameOk y then some (.fill p y) else none) else (atomF y).map (.put p)
    | none => none)
  | _ => none
def singleF : List Str → Option Rw
  | [w, x] => if w = wS "back" then (atomF x).map .back else if w = wS "tell" then (atomF x).map .tell
    else if nameOk x then (if w = wS "drop" then some (.drop x) else if w = wS "ask" then some (.ask x) else none) else none
  | _ => none
def rowF : List Str → Option Rw
  | w :: x :: r =>
    if w = wS "fill" ∨ w = wS "put" then intoF (w :: x :: r)
    else if r = [] ∧ w ≠ wS "call" then singleF (w :: x :: r)
    else if nameOk x then
      (if w = wS "set" then setF (w :: x :: r) else if w = wS "make" then makeF (w :: x :: r) else if w = wS "call" then callF (w :: x :: r) else pairF (w :: x :: r))
    else none
  | _ => none
instance (w : Str) : Decidable (kindS w) := inferInstanceAs (Decidable (w = Str.ofString "num" ∨ nameOk w))
def fieldsF : List Str → Option (List Dt)
  | [] => some []
  | [_] => none
  | x :: k :: r => if nameOk x ∧ kindS k then (fieldsF r).map (.tup [.str x, .str k] :: ·) else none
def recF : List Str → Option El
  | _ :: n :: r => if 2 ≤ r.length ∧ r.length ≤ 8 ∧ nameOk n then (fieldsF r).map (.rcd n) else none
  | _ => none
def isLend (w : Str) : Prop := w = wS "look" ∨ w = wS "hand"
instance (w : Str) : Decidable (isLend w) := inferInstanceAs (Decidable (w = wS "look" ∨ w = wS "hand"))
/-- the parameter that stands first, and what is behind it -/
def parF : List Str → Option (Dt × List Str)
  | w :: r =>
    if isLend w then (match r with
      | x :: y :: r => if nameOk x ∧ nameOk y then some (.tup [.str w, .str x, .str y], r) else none
      | _ => none)
    else (match r with
      | k :: r => if nameOk w ∧ kindS k then some (.tup [.str (if k = wS "num" then wS "num" else wS "box"), .str w, .str k], r) else none
      | _ => none)
  | [] => none
theorem parF_less {ws r : List Str} {d : Dt} (h : parF ws = some (d, r)) : r.length < ws.length := by
  unfold parF at h
  split at h
  · split at h
    · split at h
      · split at h
        · cases h
          simp only [List.length_cons]
          omega
        · cases h
      · cases h
    · split at h
      · split at h
        · cases h
          simp only [List.length_cons]
          omega
        · cases h
      · cases h
  · cases h
def parsF (ws : List Str) (acc : List Dt) : Option (List Dt) :=
  if ws = [] then some acc else
    match h : parF ws with
    | none => none
    | some (d, r) => if acc.length = 6 then none else parsF r (acc ++ [d])
termination_by ws.length
decreasing_by exact parF_less h
def headF : List Str → Option (Str × List Dt × Option Str)
  | _ :: n :: rest => if nameOk n then (match lastTwo (wS "gives") rest with
    | some g => if kindS g then (parsF (rest.take (rest.length - 2)) []).map fun ps => (n, ps, some g) else none
    | none => (parsF rest []).map fun ps => (n, ps, none)) else none
  | _ => none
/-- rows that stand open -/
structure Blk where
  w : Str
  a : At
  rows : List El
  others : List El
  beyond : Bool
def Blk.put (b : Blk) (e : El) : Blk := if b.beyond then { b with others := b.others ++ [e] } else { b with rows := b.rows ++ [e] }
/-- what is read so far; the block opened last stands first -/
structure RS where
  recs : List El
  hels : List El
  begun : Option (Str × List Dt × Option Str)
  blks : List Blk
  pts : Nat
def RS.start : RS := ⟨[], [], none, [], 0⟩
def openF (st : RS) : List Str → Option RS
  | [w, x] => (match atomF x with
    | some a => if st.blks.length ≤ 8 ∧ st.pts < 60 then some { st with pts := st.pts + 1, blks := ⟨w, a, [], [], false⟩ :: st.blks } else none
    | none => none)
  | _ => none
def turnF (st : RS) : Option RS := match st.blks with
  | b :: r => if b.w = wS "if" ∧ b.beyond = false then some { st with blks := { b with beyond := true } :: r } else none
  | [] => none
def Blk.made (b : Blk) (w : Str) : El := if w = wS "if" then .iff b.a b.rows b.others else .whl b.a b.rows
def shutF (w : Str) (st : RS) : Option RS := match st.blks with
  | b :: c :: r => if b.w = w then some { st with blks := c.put (b.made w) :: r } else none
  | _ => none
def endF (st : RS) : Option RS := match st.blks, st.begun with
  | [b], some (n, ps, g) => some { st with hels := st.hels ++ [.hel n ps g b.rows], begun := none, blks := [] }
  | _, _ => none
def withinF (st : RS) (ws : List Str) : Option RS :=
  if ws.head? = some (wS "if") ∨ ws.head? = some (wS "while") then openF st ws
  else if ws = [wS "else"] then turnF st
  else if ws = [wS "fi"] then shutF (wS "if") st
  else if ws = [wS "od"] then shutF (wS "while") st
  else if ws = [wS "end"] then endF st
  else match rowF ws, st.blks with
    | some r, b :: bs => if st.pts < 60 then some { st with pts := st.pts + 1, blks := b.put (.row r) :: bs } else none
    | _, _ => none
def withoutF (st : RS) (ws : List Str) : Option RS :=
  if ws.head? = some (wS "record") then (match recF ws with
    | some r => if st.hels = [] ∧ st.recs.length < 6 then some { st with recs := st.recs ++ [r] } else none
    | none => none)
  else if ws.head? = some (wS "helper") ∧ st.hels.length < 6 then (match headF ws with
    | some h => some { st with begun := some h, blks := [⟨wS "helper", .num 0, [], [], false⟩], pts := 0 }
    | none => none)
  else none
def goodF (st : RS) (ws : List Str) : Option RS := if st.begun = none then withoutF st ws else withinF st ws
/-- row by row: the state behind, or the number of the row refused -/
def readF : List (List Str) → Nat → RS → RS ⊕ Nat
  | [], _, st => .inl st
  | ws :: r, k, st => if ws = [] then readF r (k + 1) st else match goodF st ws with
    | some st' => readF r (k + 1) st'
    | none => .inr k
/-! ### f-strings; a tuple and (); a text times a number; extend -/
section
variable {σ : St} {H : Hp}
theorem w_jsN {acc : Str} {Q : Str → Hp → Prop} (h : Q acc H) : tJs [] acc σ H Q := h
theorem w_jsC {t : TE} {ts : List TE} {acc : Str} {Q : Str → Hp → Prop} (h : t σ H fun x H1 => ∃ y : Str, x = .str y ∧ (acc ++ y).length ≤ sizeLine ∧ tJs ts (acc ++ y) σ H1 Q) : tJs (t :: ts) acc σ H Q := h
theorem w_jsS {P : Str → Prop} {f : Str → Str} {s : Str} (z : (f s).length ≤ sizeLine) (h : P s) : ∃ y : Str, V.str s = .str y ∧ (f y).length ≤ sizeLine ∧ P y := ⟨s, rfl, z, h⟩
theorem w_fmt {te : TE} {Q : VK} (h : te σ H fun x H1 => (∃ y : Str, x = .str y ∧ y.length ≤ sizeLine ∧ Q (.str y) H1) ∨ ∃ i : Int, x = .int i ∧ i.natAbs.log2 < 1920 ∧ Q (.str (toString i)) H1) : tFmt te σ H Q := h
theorem w_fmtS {s : Str} {P : Str → Prop} {R : Int → Prop} (z : s.length ≤ sizeLine) (h : P s) : (∃ y : Str, V.str s = .str y ∧ y.length ≤ sizeLine ∧ P y) ∨ ∃ i : Int, V.str s = .int i ∧ i.natAbs.log2 < 1920 ∧ R i := .inl ⟨s, rfl, z, h⟩
theorem w_fmtI {i : Int} {P : Str → Prop} {R : Int → Prop} (z : i.natAbs.log2 < 1920) (h : R i) : (∃ y : Str, V.int i = .str y ∧ y.length ≤ sizeLine ∧ P y) ∨ ∃ j : Int, V.int i = .int j ∧ j.natAbs.log2 < 1920 ∧ R j := .inr ⟨i, rfl, z, h⟩
end
section
open PySem.Spec PyProof.Rows
/-- xs == (), whatever xs holds -/
def rEqNilT : R2 := fun x y H Q => ∃ a b xs, x = .ref a ∧ y = .ref b ∧ H a = some (.tup xs) ∧ H b = some (.tup []) ∧ Q (.bl xs.isEmpty) H
def rNeNilT : R2 := fun x y H Q => ∃ a b xs, x = .ref a ∧ y = .ref b ∧ H a = some (.tup xs) ∧ H b = some (.tup []) ∧ Q (.bl (!xs.isEmpty)) H
theorem isE {its : List Value} {xs : List V} (r : Vals xs its) : ((List.range (min its.toArray.size ([] : List Value).toArray.size)).all (fun _ => true) && its.toArray.size == ([] : List Value).toArray.size) = xs.isEmpty := by
  cases r with
  | nil => rfl
  | cons r1 r2 => simp
theorem op_eqNilT {X : Cx} (hu : X.A.units + 64 < cLine) : OpR X (compareOp .Eq) rEqNilT := by
  intro pins s σ H x y v u Q I rx ry h
  obtain ⟨a, b, xs, rfl, rfl, ha, hb, q⟩ := h
  cases rx
  cases ry
  obtain ⟨its, r, i1, _⟩ := I.tuple (.of ha)
  obtain ⟨its2, r2, i2, _⟩ := I.tuple (.of hb)
  cases r2
  refine SeqAt.RcAt.tuples (e := fun _ => true) i1 i2 (by omega) (fun j h1 h2 => by simp at h2) _ _ _ _ ?_
  rw [isE r]
  exact ⟨.bl xs.isEmpty, H, I, rfl, q⟩
theorem op_neNilT {X : Cx} (hu : X.A.units + 64 < cLine) : OpR X (compareOp .NotEq) rNeNilT := by
  intro pins s σ H x y v u Q I rx ry h
  obtain ⟨a, b, xs, rfl, rfl, ha, hb, q⟩ := h
  cases rx
  cases ry
  obtain ⟨its, r, i1, _⟩ := I.tuple (.of ha)
  obtain ⟨its2, r2, i2, _⟩ := I.tuple (.of hb)
  cases r2
  refine SeqAt.RcNeAt.tuples (e := fun _ => true) i1 i2 (by omega) (fun j h1 h2 => by simp at h2) _ _ _ _ ?_
  rw [isE r]
  exact ⟨.bl (!xs.isEmpty), H, I, rfl, q⟩
end
section
theorem w_eqNilT {H : Hp} {Q : VK} {a b : Addr} {xs : List V} (ha : H a = some (.tup xs)) (hb : H b = some (.tup [])) (h : Q (.bl xs.isEmpty) H) : rEqNilT (.ref a) (.ref b) H Q := ⟨a, b, xs, rfl, rfl, ha, hb, h⟩
theorem w_neNilT {H : Hp} {Q : VK} {a b : Addr} {xs : List V} (ha : H a = some (.tup xs)) (hb : H b = some (.tup [])) (h : Q (.bl (!xs.isEmpty)) H) : rNeNilT (.ref a) (.ref b) H Q := ⟨a, b, xs, rfl, rfl, ha, hb, h⟩
end
section
variable {σ : St} {H : Hp} {Q : VK}
theorem w_jsn3 {i j : Nat} {x y s : Str} (hi : σ[i]? = some (some (.str x))) (hj : σ[j]? = some (some (.str y))) (z : x.length + s.length + y.length ≤ 1000) {R : Str → Hp → Prop} (h : R (x ++ s ++ y) H) :
    tJs [tFmt (tVar i), tC (.str s), tFmt (tVar j)] Str.empty σ H R := by
  have e : ∀ t : Str, Str.empty ++ t = t := fun t => by
    show (⟨#[] ++ t.cps⟩ : Str) = t
    simp
  have al : ∀ a b : Str, (a ++ b).length = a.length + b.length := fun a b => by
    show (a.cps ++ b.cps).size = _
    rw [Array.size_append]
    rfl
  have hz := sizeLine_eq
  refine ⟨_, hi, .inl ⟨x, rfl, by omega, x, rfl, by rw [e]; omega, s, rfl, by rw [e, al]; omega, _, hj, .inl ⟨y, rfl, by omega, y, rfl, by rw [e, al, al]; omega, ?_⟩⟩⟩
  rw [e]
  exact h
theorem w_jsn5 {i j k : Nat} {x y u s t : Str} (hi : σ[i]? = some (some (.str x))) (hj : σ[j]? = some (some (.str y))) (hk : σ[k]? = some (some (.str u))) (z : x.length + s.length + y.length + t.length + u.length ≤ 1000) {R : Str → Hp → Prop} (h : R (x ++ s ++ y ++ t ++ u) H) :
    tJs [tFmt (tVar i), tC (.str s), tFmt (tVar j), tC (.str t), tFmt (tVar k)] Str.empty σ H R := by
  have e : ∀ t : Str, Str.empty ++ t = t := fun t => by
    show (⟨#[] ++ t.cps⟩ : Str) = t
    simp
  have al : ∀ a b : Str, (a ++ b).length = a.length + b.length := fun a b => by
    show (a.cps ++ b.cps).size = _
    rw [Array.size_append]
    rfl
  have hz := sizeLine_eq
  refine ⟨_, hi, .inl ⟨x, rfl, by omega, x, rfl, by rw [e]; omega, s, rfl, by rw [e, al]; omega, _, hj, .inl ⟨y, rfl, by omega, y, rfl, by rw [e, al, al]; omega, t, rfl, by rw [e, al, al, al]; omega, _, hk, .inl ⟨u, rfl, by omega, u, rfl, by rw [e, al, al, al, al]; omega, ?_⟩⟩⟩⟩
  rw [e]
  exact h
end
section
open PySem.Spec PyProof.Rows
/-! ### a text times a small number -/
def repS (x : Str) (n : Nat) : Str := if n = 1 then x else ⟨(List.replicate n x.cps).foldl (· ++ ·) #[]⟩
theorem op_mulS {X : Cx} : OpR X (binaryOp .Mult) (fun x y H Q => ∃ (s : Str) (n : Nat), x = .str s ∧ y = .int (n : Int) ∧ 1 ≤ n ∧ n ≤ 100 ∧ 1 ≤ s.length ∧ s.length ≤ 100 ∧ (repS s n).length ≤ sizeLine ∧ Q (.str (repS s n)) H) := by
  intro pins s σ H x y v u Q I rx ry h
  obtain ⟨z, n, rfl, rfl, h1, h2, h3, h4, h5, q⟩ := h
  obtain ⟨t, rfl⟩ := rx
  obtain ⟨t', rfl⟩ := ry
  have hz := sizeLine_eq
  have hd : ∀ k : Nat, k ≤ 10000 → Builtin.Str.tooLong k = false := fun k hk => by
    unfold Builtin.Str.tooLong
    simp only [decide_eq_false_iff_not]
    omega
  refine PySem.P.mul_str (by simp; omega) (fun _ _ => ?_) (fun _ _ => hd _ ?_) ?_
  · have : ((z.length : Nat) : Int) ≤ 100 := by omega
    have hq : (100 : Int) ≤ (2 ^ 63 - 1) / (n : Int) := by
      rw [Int.le_ediv_iff_mul_le (by omega)]
      omega
    omega
  · have : ((n : Int)).toNat = n := Int.toNat_natCast n
    rw [this]
    exact Nat.le_trans (Nat.mul_le_mul h4 h2) (by decide)
  · rw [if_neg (by omega)]
    unfold repS at q h5
    by_cases e : n = 1
    · subst e
      rw [if_pos (by rfl)]
      rw [if_pos rfl] at q
      exact ⟨.str z, H, I, ⟨t, rfl⟩, q⟩
    · rw [if_neg (by simp; omega)]
      rw [if_neg e] at q h5
      exact ⟨h5, .str _, H, I.tok _, ⟨_, rfl⟩, by rw [Int.toNat_natCast]; exact q⟩

end
def rMulS : R2 := fun x y H Q => ∃ (s : Str) (n : Nat), x = .str s ∧ y = .int (n : Int) ∧ 1 ≤ n ∧ n ≤ 100 ∧ 1 ≤ s.length ∧ s.length ≤ 100 ∧ (repS s n).length ≤ sizeLine ∧ Q (.str (repS s n)) H
theorem op_mulS2 {X : Cx} : OpR X (PySem.binaryOp .Mult) rMulS := op_mulS
/-! ### a line's words -/
def eS : Str := Str.ofString ""
def bS : Str := Str.ofString " "
def wordsOf (s : Str) : List Str := (Txt.split s bS).filter fun w => decide (w ≠ eS)
def repZ (x : Str) (n : Nat) : Str := if n = 0 then eS else repS x n
section
open TL
theorem tl_bS : tl bS = [32] := by decide +kernel
theorem tl_eS : tl eS = [] := by decide +kernel
theorem tl_app (a b : Str) : tl (a ++ b) = tl a ++ tl b := tl_append a b
theorem rep_fold (x : Array Nat) : ∀ (n : Nat) (acc : Array Nat), ((List.replicate n x).foldl (· ++ ·) acc).toList = acc.toList ++ (List.replicate n x.toList).flatten
  | 0, acc => by simp
  | n + 1, acc => by
    rw [List.replicate_succ, List.foldl_cons, rep_fold x n, List.replicate_succ, List.flatten_cons, Array.toList_append, List.append_assoc]
theorem tl_repS (x : Str) (n : Nat) : tl (repS x n) = (List.replicate n (tl x)).flatten := by
  unfold repS
  by_cases h : n = 1
  · subst h
    simp
  · rw [if_neg h]
    show ((List.replicate n x.cps).foldl (· ++ ·) #[]).toList = _
    rw [rep_fold]
    rfl
theorem tl_repZ (x : Str) (n : Nat) : tl (repZ x n) = (List.replicate n (tl x)).flatten := by
  unfold repZ
  by_cases h : n = 0
  · subst h
    rw [if_pos rfl, tl_eS]
    rfl
  · rw [if_neg h, tl_repS]
theorem flat_one (c : Nat) : ∀ n : Nat, (List.replicate n [c]).flatten = List.replicate n c
  | 0 => rfl
  | n + 1 => by rw [List.replicate_succ, List.flatten_cons, flat_one c n]; rfl
theorem tl_blanks (n : Nat) : tl (repZ bS n) = List.replicate n 32 := by rw [tl_repZ, tl_bS, flat_one]
theorem join_cons (S p : List Nat) : ∀ {r : List (List Nat)}, r ≠ [] → joinL S (p :: r) = p ++ (S ++ joinL S r)
  | [], h => absurd rfl h
  | _ :: _, _ => rfl
theorem join_pre {X : List (List Nat)} (h : X ≠ []) : ∀ n : Nat, joinL [32] (List.replicate n [] ++ X) = List.replicate n 32 ++ joinL [32] X
  | 0 => rfl
  | n + 1 => by
    rw [List.replicate_succ, List.cons_append, join_cons _ _ (by simp [h]), join_pre h n]
    rfl
theorem join_post (k : Nat) : ∀ {X : List (List Nat)}, X ≠ [] → joinL [32] (X ++ List.replicate k []) = joinL [32] X ++ List.replicate k 32
  | [], h => absurd rfl h
  | [p], _ => by
    cases k with
    | zero => simp
    | succ k =>
      have h := join_pre (X := [[]]) (by simp) k
      rw [show List.replicate k ([] : List Nat) ++ [[]] = List.replicate (k + 1) [] from List.replicate_succ'.symm] at h
      rw [List.cons_append, List.nil_append, join_cons _ _ (by simp), h]
      show p ++ ([32] ++ (List.replicate k 32 ++ [])) = p ++ List.replicate (k + 1) 32
      rw [List.append_nil, List.replicate_succ]
      rfl
  | p :: q :: r, _ => by
    have ih := join_post k (X := q :: r) (by simp)
    rw [List.cons_append, join_cons _ _ (by simp), ih]
    show p ++ ([32] ++ (joinL [32] (q :: r) ++ List.replicate k 32)) = p ++ ([32] ++ joinL [32] (q :: r)) ++ List.replicate k 32
    simp only [List.append_assoc]
/-- with m signs between -/
def midP (m : Nat) : List (List Nat) → List (List Nat)
  | [] => []
  | [p] => [p]
  | p :: q :: r => p :: (List.replicate (m - 1) [] ++ midP m (q :: r))
theorem mid_ne (m : Nat) : ∀ {ws : List (List Nat)}, ws ≠ [] → midP m ws ≠ []
  | [], h => absurd rfl h
  | [_], _ => by simp [midP]
  | _ :: _ :: _, _ => by simp [midP]
theorem join_mid {m : Nat} (hm : 1 ≤ m) : ∀ ws : List (List Nat), joinL [32] (midP m ws) = joinL (List.replicate m 32) ws
  | [] => rfl
  | [_] => rfl
  | p :: q :: r => by
    have ih := join_mid hm (q :: r)
    have h := mid_ne m (ws := q :: r) (by simp)
    show joinL [32] (p :: (List.replicate (m - 1) [] ++ midP m (q :: r))) = p ++ (List.replicate m 32 ++ joinL (List.replicate m 32) (q :: r))
    rw [join_cons _ _ (by simp [h]), join_pre h, ih]
    have e : List.replicate m 32 = [32] ++ List.replicate (m - 1) 32 := by
      rw [show m = (m - 1) + 1 from by omega, List.replicate_succ]
      rfl
    rw [e]
    simp only [List.append_assoc]
theorem filt_rep (n : Nat) : (List.replicate n ([] : List Nat)).filter (fun p => decide (p ≠ [])) = [] := by
  rw [List.filter_replicate]
  simp
theorem filt_mid (m : Nat) : ∀ {ws : List (List Nat)}, (∀ w ∈ ws, w ≠ []) → (midP m ws).filter (fun p => decide (p ≠ [])) = ws
  | [], _ => rfl
  | [p], h => by simp [midP, h p (by simp)]
  | p :: q :: r, h => by
    have ih := filt_mid m (ws := q :: r) fun w hw => h w (List.mem_cons_of_mem _ hw)
    show (p :: (List.replicate (m - 1) [] ++ midP m (q :: r))).filter _ = _
    rw [List.filter_cons, if_pos (decide_eq_true (h p (by simp))), List.filter_append, filt_rep, List.nil_append, ih]
theorem mid_mem (m : Nat) : ∀ {ws : List (List Nat)} {p : List Nat}, p ∈ midP m ws → p = [] ∨ p ∈ ws
  | [], p, h => by cases h
  | [q], p, h => .inr h
  | a :: b :: r, p, h => by
    rcases List.mem_cons.mp (show p ∈ a :: (List.replicate (m - 1) [] ++ midP m (b :: r)) from h) with rfl | h
    · exact .inr (by simp)
    rcases List.mem_append.mp h with h | h
    · exact .inl (List.eq_of_mem_replicate h)
    · rcases mid_mem m h with h | h
      · exact .inl h
      · exact .inr (List.mem_cons_of_mem _ h)
theorem tl_inj {a b : Str} (h : tl a = tl b) : a = b := by
  have := map_tl_inj (show [a].map tl = [b].map tl by simp [h])
  exact List.head_eq_of_cons_eq this
theorem str_of (cs : List Nat) : tl (⟨cs.toArray⟩ : Str) = cs := rfl
/-- a line of such parts: its words are those that aren't empty -/
theorem words_parts {line : Str} {ps : List (List Nat)} (hne : ps ≠ []) (hp : ∀ p ∈ ps, 32 ∉ p) (h : tl line = joinL [32] ps) : (wordsOf line).map tl = ps.filter (fun p => decide (p ≠ [])) := by
  have e : line = Txt.join bS (ps.map fun p => (⟨p.toArray⟩ : Str)) := by
    apply tl_inj
    rw [join_eq, tl_join, tl_bS, h, List.map_map]
    congr 1
    exact (List.map_id ps).symm
  unfold wordsOf
  rw [e, split_join (y := bS) (s := 32) (S := []) tl_bS (by decide +kernel) (by simpa using hne) (fun p hp' => by
    obtain ⟨q, hq, rfl⟩ := List.mem_map.mp hp'
    exact hp q hq)]
  clear e h hne hp
  induction ps with
  | nil => rfl
  | cons p ps ih =>
    have e2 : decide ((⟨p.toArray⟩ : Str) ≠ eS) = decide (p ≠ []) := by
      congr 1
      apply propext
      constructor
      · intro h z
        subst z
        exact h rfl
      · intro h z
        apply h
        have := congrArg tl z
        rw [tl_eS] at this
        exact this
    rw [List.map_cons, List.filter_cons, List.filter_cons, e2]
    by_cases h : p ≠ []
    · rw [if_pos (decide_eq_true h), if_pos (decide_eq_true h), List.map_cons, ih]
    · rw [if_neg (by simpa using h), if_neg (by simpa using h), ih]
theorem map_tl_of {a b : List Str} (h : a.map tl = b.map tl) : a = b := map_tl_inj h
def wordOk (w : Str) : Prop := tl w ≠ [] ∧ 32 ∉ tl w ∧ 10 ∉ tl w
theorem words_line {line : Str} {n m k : Nat} {ws : List Str} (hm : 1 ≤ m) (hne : ws ≠ []) (hw : ∀ w ∈ ws, wordOk w) (hl : tl line = List.replicate n 32 ++ joinL (List.replicate m 32) (ws.map tl) ++ List.replicate k 32) : wordsOf line = ws := by
  have hwt : ∀ p ∈ ws.map tl, p ≠ [] ∧ 32 ∉ p := fun p hp => by
    obtain ⟨w, h, rfl⟩ := List.mem_map.mp hp
    exact ⟨(hw w h).1, (hw w h).2.1⟩
  have hmn := mid_ne m (ws := ws.map tl) (by simpa using hne)
  have h := words_parts (line := line) (ps := List.replicate n [] ++ (midP m (ws.map tl) ++ List.replicate k [])) (by simp [hmn]) (fun p hp => by
    rcases List.mem_append.mp hp with hp | hp
    · rw [List.eq_of_mem_replicate hp]; simp
    rcases List.mem_append.mp hp with hp | hp
    · rcases mid_mem m hp with rfl | hp
      · simp
      · exact (hwt p hp).2
    · rw [List.eq_of_mem_replicate hp]; simp) (by
    rw [join_pre (by simp [hmn]), join_post k hmn, join_mid hm, hl, List.append_assoc])
  rw [List.filter_append, List.filter_append, filt_rep, filt_rep, filt_mid m (fun w h => (hwt w h).1), List.nil_append, List.append_nil] at h
  exact map_tl_of h
theorem words_loose {n m k : Nat} {ws : List Str} (hm : 1 ≤ m) (hne : ws ≠ []) (hw : ∀ w ∈ ws, wordOk w) : wordsOf (repZ bS n ++ Txt.join (repZ bS m) ws ++ repZ bS k) = ws :=
  words_line hm hne hw (by rw [tl_app, tl_app, tl_blanks, tl_blanks, join_eq, tl_join, tl_blanks])
theorem words_ind {n : Nat} {ws : List Str} (hne : ws ≠ []) (hw : ∀ w ∈ ws, wordOk w) : wordsOf (repS (Str.ofString "  ") n ++ Txt.join bS ws) = ws := by
  have e2 : tl (Str.ofString "  ") = [32, 32] := by decide +kernel
  have e3 : ∀ n : Nat, (List.replicate n [32, 32]).flatten = List.replicate (2 * n) 32 := fun n => by
    induction n with
    | zero => rfl
    | succ n ih =>
      rw [List.replicate_succ, List.flatten_cons, ih, show 2 * (n + 1) = 2 * n + 1 + 1 from by omega, List.replicate_succ, List.replicate_succ]
      rfl
  refine words_line (n := 2 * n) (m := 1) (k := 0) (Nat.le_refl _) hne hw ?_
  rw [tl_app, tl_repS, e2, e3, join_eq, tl_join, tl_bS]
  simp
theorem words_plain {ws : List Str} (hne : ws ≠ []) (hw : ∀ w ∈ ws, wordOk w) : wordsOf (Txt.join bS ws) = ws := by
  refine words_line (n := 0) (m := 1) (k := 0) (Nat.le_refl _) hne hw ?_
  rw [join_eq, tl_join, tl_bS]
  simp
theorem words_blank (n : Nat) : wordsOf (repZ bS n) = [] := by
  have h := words_parts (line := repZ bS n) (ps := List.replicate n [] ++ [[]]) (by simp) (fun p hp => by
    rcases List.mem_append.mp hp with hp | hp
    · rw [List.eq_of_mem_replicate hp]; simp
    · rw [List.mem_singleton.mp hp]; simp) (by
    rw [join_pre (by simp), tl_blanks]
    show _ = List.replicate n 32 ++ []
    rw [List.append_nil])
  rw [List.filter_append, filt_rep] at h
  have h : (wordsOf (repZ bS n)).map tl = ([] : List Str).map tl := by
    rw [h]
    rfl
  exact map_tl_of h
end
section
variable {P : Program} {w : World} {K : PySem.W.Frag} {mg : Str → Option Value} {base : Heap}
structure ProgAtE (T : Tx K mg) (H : Hp) (v : Addr) (rs hs : List El) : Prop where
  h : ∃ (dx q1 q2 : Addr) (us1 us2 : List V), H v = some (.ins T.a_Program dx (fsProgram (.ref q1) (.ref q2))) ∧ H q1 = some (.tup us1) ∧ ElsAt T H rs us1 ∧ H q2 = some (.tup us2) ∧ ElsAt T H hs us2
theorem ProgAtE.keep {T : Tx K mg} {H H' : Hp} {v : Addr} {rs hs : List El} (k : Keep H H') (h : ProgAtE T H v rs hs) : ProgAtE T H' v rs hs := by
  obtain ⟨dx, q1, q2, us1, us2, g1, g2, g3, g4, g5⟩ := h
  exact ⟨dx, q1, q2, us1, us2, k _ _ g1 trivial, k _ _ g2 trivial, g3.keep k, k _ _ g4 trivial, g5.keep k⟩
end
end
section

local macro_rules | `(tactic| walk_at "use") => `(tactic| (with_reducible refine w_chain ?_))
local macro_rules | `(tactic| walk_at "use") => `(tactic| ((with_reducible apply w_lenStr); (· omega)))
local macro_rules | `(tactic| walk_at "use") => `(tactic| (with_reducible refine w_iStr ?_))
local macro_rules | `(tactic| walk_at "use") => `(tactic| (with_reducible refine w_itS ?_))
local macro_rules | `(tactic| walk_at "use") => `(tactic| ((with_reducible refine w_GT ?_); intro a ha))
local macro_rules | `(tactic| walk_at "use") => `(tactic| ((with_reducible apply w_ninC); (· assumption)))
local macro_rules | `(tactic| walk_at "use") => `(tactic| ((with_reducible apply w_inC); (· assumption)))
/-! ### names, numbers, paths read -/
section
variable {P : Program} {w : World} {K : PySem.W.Frag} {mg : Str → Option Value} {base : Heap}
theorem letters_are : (wS "abcdefghijklmnopqrstuvwxyz").cps.toList = (List.range 26).map (97 + ·) := by decide +kernel
theorem figures_are : (wS "0123456789").cps.toList = (List.range 10).map (48 + ·) := by decide +kernel
theorem mem_letters (c : Nat) : decide (c ∈ (Str.ofString "abcdefghijklmnopqrstuvwxyz").cps.toList) = decide (97 ≤ c ∧ c ≤ 122) := by
  rw [show (Str.ofString "abcdefghijklmnopqrstuvwxyz").cps.toList = _ from letters_are]
  congr 1
  simp only [List.mem_map, List.mem_range, eq_iff_iff]
  exact ⟨fun ⟨a, h, e⟩ => by omega, fun h => ⟨c - 97, by omega, by omega⟩⟩
theorem mem_figures (c : Nat) : decide (c ∈ (Str.ofString "0123456789").cps.toList) = decide (48 ≤ c ∧ c ≤ 57) := by
  rw [show (Str.ofString "0123456789").cps.toList = _ from figures_are]
  congr 1
  simp only [List.mem_map, List.mem_range, eq_iff_iff]
  exact ⟨fun ⟨a, h, e⟩ => by omega, fun h => ⟨c - 48, by omega, by omega⟩⟩
def spWordB (f : Str → Bool) : Sp := fun vs H Q _ => ∃ s : Str, vs = [.str s] ∧ s.length ≤ 100000 ∧ ∀ H', Same H H' → Q (.bl (f s)) H'
theorem len_l (s : Str) : s.cps.toList.length = s.length := Array.length_toList
theorem all_let (z : Str) : (z.cps.toList.map fun c => decide (97 ≤ c ∧ c ≤ 122)).all id = decide (letS z) := by
  rw [List.all_map]
  apply Bool.eq_iff_iff.mpr
  simp only [List.all_eq_true, Function.comp, id, decide_eq_true_eq]
  exact Iff.rfl
theorem all_fig (z : Str) : (z.cps.toList.map fun c => decide (48 ≤ c ∧ c ≤ 57)).all id = decide (figL z.cps.toList) := by
  rw [List.all_map]
  apply Bool.eq_iff_iff.mpr
  simp only [List.all_eq_true, Function.comp, id, decide_eq_true_eq]
  exact Iff.rfl
theorem ok_is_name (T : Tx K mg) : FnOk P w K mg base CX0 1 T.f_is_name T.d_is_name ["word"] (spWordB fun s => decide (nameOk s)) := by
  refine T.F_is_name.ok sc_is_name (fun vs H Q E h => ?_) (fun cdv A outer s H vs Q E hr h => ?_)
  · obtain ⟨s, rfl, _⟩ := h
    rfl
  · obtain ⟨z, rfl, hz, q⟩ := h
    refine ⟨_, (pss_one (ps_ret (pe_and (pe_chain op_lt op_le pe_int (pe_callB call_len_str (by rfl) T.n_len PySem.boot_len (pa_cons (pv 0) pa_nil)) (pe_globI rfl T.m_LONGEST)) (pe_and (pe_callB (cr_allK (K := K) rfl rfl) (by rfl) T.n_all (by decide +kernel) (pa_cons (pe_lc (own := [("sign", 1)]) (g := gName 1) (tt := tYes) rfl sc_is_name.nd (pi_str (pv 0)) (blkOk_by (own := [("sign", 1)]) (N := ["word", "sign"]) (sc := defScope s_is_name) (by decide +kernel)) (fun _ _ _ _ _ => pg_name (i := 1) sc_is_name.nd rfl (Or.inl rfl)) (fun _ _ _ _ _ => pts_nil) (fun _ _ _ _ _ => (pe_cmpR op_in_sign (pv 1) (pe_globS rfl T.m_LETTERS) (by rfl)))) pa_nil)) (pe_one (pe_cmpR (notIn_seqK (K := K) rfl) (pv 0) (pe_globT rfl T.m_KEPT) (by rfl))))))), ?_⟩
    have hsz := sizeLine_eq
    have q2 : ∀ (b : Bool) H', Same H H' → decide (nameOk z) = b → Q (.bl b) H' := fun b H' s e => e ▸ q H' s
    walk_at "sy"
    by_cases h0 : 0 < z.length
    · refine iteDT (by omega) ?_
      walk_at "sy"
      by_cases h8 : z.length ≤ 8
      · refine iteDT (by omega) ?_
        walk_at "sy"
        refine ⟨z, rfl, ?_⟩
        refine k_lcS (fun D i Hx => Same H Hx ∧ Hx D = some (.lst ((z.cps.toList.take i).map fun c => V.bl (decide (97 ≤ c ∧ c ≤ 122))))) (fun D Hx n => ⟨n.same, n.at_⟩) ?_ ?_
        · rintro D hD i c Hx hc ⟨sx, hDx⟩
          have hi := (List.getElem?_eq_some_iff.mp hc).1
          rw [len_l] at hi
          walk_at "sy"
          refine w_sign ?_
          rw [mem_letters]
          refine w_acc hDx (by rw [List.length_map, List.length_take]; omega) fun H2 c2 => ?_
          refine ⟨c2.sameOwn sx hD, ?_⟩
          rw [take_snoc hc, List.map_append]
          exact c2.at_
        · rintro D hD Hx ⟨sx, hDx⟩
          rw [← len_l, List.take_length] at hDx
          walk_at "sy"
          refine w_all (bs := z.cps.toList.map fun c => decide (97 ≤ c ∧ c ≤ 122)) (by rw [List.map_map]; exact hDx) ?_
          rw [all_let]
          by_cases hl : letS z
          · refine ⟨true, by rw [decide_eq_true hl], ?_⟩
            rw [if_pos rfl]
            walk_at "sy"
            refine q2 _ _ sx ?_
            show decide (nameOk z) = !decide (z ∈ keptL)
            by_cases hk : z ∈ keptL
            · rw [decide_eq_true hk, decide_eq_false fun h => h.2.2.2 hk]; rfl
            · rw [decide_eq_false hk, decide_eq_true ⟨hl, h0, h8, hk⟩]; rfl
          · refine ⟨false, by rw [decide_eq_false hl], ?_⟩
            rw [if_neg Bool.false_ne_true]
            exact q2 _ _ sx (decide_eq_false fun h => hl h.1)
      · refine iteDF (by omega) ?_
        exact q2 _ _ (Same.refl _) (decide_eq_false fun h => h8 h.2.2.1)
    · refine iteDF (by omega) ?_
      walk_at "sy"
      exact q2 _ _ (Same.refl _) (decide_eq_false fun h => h0 h.2.1)
theorem ok_is_kind (T : Tx K mg) : FnOk P w K mg base CX0 2 T.f_is_kind T.d_is_kind ["word"] (spWordB fun s => decide (kindS s)) := by
  refine T.F_is_kind.ok sc_is_kind (fun vs H Q E h => ?_) (fun cdv A outer s H vs Q E hr h => ?_)
  · obtain ⟨s, rfl, _⟩ := h
    rfl
  · obtain ⟨z, rfl, hz, q⟩ := h
    refine ⟨_, (pss_one (ps_ret (pe_or (pe_cmpR op_eq (pv 0) pe_str (nomark _)) (pe_one (pe_call (ok_is_name T) (hr.mono (by omega)) rfl T.m_is_name T.F_is_name.kp T.B_is_name .nil pass0 (pa_cons (pv 0) pa_nil)))))), ?_⟩
    have q2 : ∀ (b : Bool) H', Same H H' → decide (kindS z) = b → Q (.bl b) H' := fun b H' s e => e ▸ q H' s
    walk_at "sy"
    by_cases h0 : z = Str.ofString "num"
    · rw [if_pos (decide_eq_true h0)]
      exact q2 _ _ (Same.refl _) (decide_eq_true (.inl h0))
    · rw [if_neg (by rw [decide_eq_false h0]; exact Bool.false_ne_true)]
      walk_at "sy"
      refine ⟨z, rfl, hz, fun H1 s1 => q2 _ _ s1 ?_⟩
      show decide (kindS z) = decide (nameOk z)
      congr 1
      exact propext ⟨fun h => h.resolve_left h0, .inr⟩
def spNum : Sp := fun vs H Q _ => ∃ s : Str, vs = [.str s] ∧ s.length ≤ 100000 ∧ ∀ H' v, Same H H' → IsD H' ((numF s).elim Dt.non fun n => .int (n : Int)) v → Q v H'
theorem item0 {z : Str} (h : 0 < z.length) : ∃ c, z.cps.toList[0]? = some c ∧ atI z.cps.toList 0 = some c := by
  have hl := len_l z
  have e : z.cps.toList[0]? = some (z.cps.toList[0]'(by omega)) := List.getElem?_eq_getElem (by omega)
  exact ⟨_, e, atI_nat (j := 0) e⟩
theorem zero_is (c : Nat) : (⟨#[c]⟩ : Str) = Str.ofString "0" ↔ c = 48 := by
  have e : Str.ofString "0" = ⟨#[48]⟩ := by decide +kernel
  rw [e]
  constructor
  · intro h
    have := congrArg (fun s : Str => s.cps.toList) h
    simpa using this
  · rintro rfl
    rfl
theorem one_sign {z : Str} {c : Nat} (h : z.cps.toList[0]? = some c) : (⟨#[c]⟩ : Str) = Str.ofString "0" ↔ z.cps.toList[0]? = some 48 := by
  rw [zero_is, h]
  simp
theorem int_fig {z : Str} (h : figL z.cps.toList) (h0 : 0 < z.length) (h8 : z.length < 8) : PySem.intText? z = some ((PySem.NumText.digitsVal z.cps.toList : Nat) : Int) :=
  PySem.intText_digits h (fun e => by
    have := len_l z
    rw [e] at this
    simp at this
    omega) (by omega)
theorem ok_number_of (T : Tx K mg) : FnOk P w K mg base CX0 1 T.f_number_of T.d_number_of ["word"] spNum := by
  refine T.F_number_of.ok sc_number_of (fun vs H Q E h => ?_) (fun cdv A outer s H vs Q E hr h => ?_)
  · obtain ⟨s, rfl, _⟩ := h
    rfl
  · obtain ⟨z, rfl, hz, q⟩ := h
    refine ⟨_, (pss_cons (ps_if (PW.pt (pw_or (pt_not (pt_chain op_lt op_lt pe_int (pe_callB call_len_str (by rfl) T.n_len PySem.boot_len (pa_cons (pv 0) pa_nil)) pe_int)) (pw_or (pt_not (pt_val (pe_callB (cr_allK (K := K) rfl rfl) (by rfl) T.n_all (by decide +kernel) (pa_cons (pe_lc (own := [("sign", 2)]) (g := gName 2) (tt := tYes) rfl sc_number_of.nd (pi_str (pv 0)) (blkOk_by (own := [("sign", 2)]) (N := ["word", "number", "sign"]) (sc := defScope s_number_of) (by decide +kernel)) (fun _ _ _ _ _ => pg_name (i := 2) sc_number_of.nd rfl (Or.inl rfl)) (fun _ _ _ _ _ => pts_nil) (fun _ _ _ _ _ => (pe_cmpR op_in_sign (pv 2) (pe_globS rfl T.m_FIGURES) (by rfl)))) pa_nil)))) (pw_or1 (PW.pt (pw_and (pt_cmpR op_eq (pe_ix ix_str (pv 0) pe_int (fun _ _ => rfl)) pe_str (nomark _)) (pw_and1 (pt_cmpR op_gt (pe_callB call_len_str (by rfl) T.n_len PySem.boot_len (pa_cons (pv 0) pa_nil)) pe_int (nomark _)))))))))
        (pss_one (ps_ret pe_non))
        pss_nil)
      (pss_cons (ps_set (i := 1) sc_number_of.nd rfl (Or.inl rfl) (pe_callTy call_int_str (by rfl) T.n_int PyProof.Rows.boot_int (pa_cons (pv 0) pa_nil)))
      (pss_cons (ps_if (pt_cmpR op_gt (pv 1) (pe_globI rfl T.m_GREATEST) (nomark _))
        (pss_one (ps_ret pe_non))
        pss_nil)
      (pss_one (ps_ret (pv 1)))))), ?_⟩
    have hsz := sizeLine_eq
    have qn : ∀ H', Same H H' → numF z = none → Q .non H' := fun H' s e => q H' _ s (by rw [e]; rfl)
    have no : ¬ (1 ≤ z.length ∧ z.length < 8 ∧ figL z.cps.toList ∧ ¬ (z.cps.toList[0]? = some 48 ∧ 1 < z.length)) → numF z = none := fun h => by unfold numF; rw [if_neg h]
    walk_at "sy"
    by_cases h0 : 0 < z.length
    · refine iteDT (by omega) ?_
      walk_at "sy"
      by_cases h8 : z.length < 8
      · have yes : figL z.cps.toList → ¬ (z.cps.toList[0]? = some 48 ∧ 1 < z.length) → numF z = if PySem.NumText.digitsVal z.cps.toList ≤ 1000002 then some (PySem.NumText.digitsVal z.cps.toList) else none := fun a b => by
          unfold numF
          rw [if_pos ⟨h0, h8, a, b⟩]
        rw [decide_eq_true (by omega : ((z.length : Nat) : Int) < 8)]
        refine iteBF rfl ?_
        walk_at "sy"
        refine ⟨z, rfl, ?_⟩
        refine k_lcS (fun D i Hx => Same H Hx ∧ Hx D = some (.lst ((z.cps.toList.take i).map fun c => V.bl (decide (48 ≤ c ∧ c ≤ 57))))) (fun D Hx n => ⟨n.same, n.at_⟩) ?_ ?_
        · rintro D hD i c Hx hc ⟨sx, hDx⟩
          have hi := (List.getElem?_eq_some_iff.mp hc).1
          rw [len_l] at hi
          walk_at "sy"
          refine w_sign ?_
          rw [mem_figures]
          refine w_acc hDx (by rw [List.length_map, List.length_take]; omega) fun H2 c2 => ?_
          refine ⟨c2.sameOwn sx hD, ?_⟩
          rw [take_snoc hc, List.map_append]
          exact c2.at_
        · rintro D hD Hx ⟨sx, hDx⟩
          rw [← len_l, List.take_length] at hDx
          walk_at "sy"
          refine w_all (bs := z.cps.toList.map fun c => decide (48 ≤ c ∧ c ≤ 57)) (by rw [List.map_map]; exact hDx) ?_
          rw [all_fig]
          by_cases hl : figL z.cps.toList
          · rw [decide_eq_true hl]
            obtain ⟨c, hc, hat⟩ := item0 h0
            have hlz := len_l z
            walk_at "sy"
            refine ⟨z, 0, c, rfl, rfl, by omega, hat, ?_⟩
            walk_at "sy"
            by_cases h48 : z.cps.toList[0]? = some 48
            · refine iteDT ((one_sign hc).mpr h48) ?_
              walk_at "sy"
              by_cases h1 : 1 < z.length
              · refine iteDT (by omega) ?_
                walk_at "sy"
                exact qn _ sx (no fun h => h.2.2.2 ⟨h48, h1⟩)
              · refine iteDF (by omega) ?_
                walk_at "sy"
                refine ⟨z, _, rfl, int_fig hl h0 h8, by omega, ?_⟩
                walk_at "sy"
                by_cases hg : PySem.NumText.digitsVal z.cps.toList ≤ 1000002
                · refine iteDF (by omega) ?_
                  walk_at "sy"
                  refine q _ _ sx ?_
                  rw [yes hl (fun h => h1 h.2), if_pos hg]
                  exact rfl
                · refine iteDT (by omega) ?_
                  walk_at "sy"
                  exact qn _ sx (by rw [yes hl (fun h => h1 h.2), if_neg hg])
            · refine iteDF (fun h => h48 ((one_sign hc).mp h)) ?_
              walk_at "sy"
              refine ⟨z, _, rfl, int_fig hl h0 h8, by omega, ?_⟩
              walk_at "sy"
              by_cases hg : PySem.NumText.digitsVal z.cps.toList ≤ 1000002
              · refine iteDF (by omega) ?_
                walk_at "sy"
                refine q _ _ sx ?_
                rw [yes hl (fun h => h48 h.1), if_pos hg]
                exact rfl
              · refine iteDT (by omega) ?_
                walk_at "sy"
                exact qn _ sx (by rw [yes hl (fun h => h48 h.1), if_neg hg])
          · rw [decide_eq_false hl]
            walk_at "sy"
            exact qn _ sx (no fun h => hl h.2.2.1)
      · rw [decide_eq_false (by omega : ¬ ((z.length : Nat) : Int) < 8)]
        walk_at "sy"
        exact qn _ (Same.refl _) (no fun h => h8 h.2.1)
    · refine iteDF (by omega) ?_
      walk_at "sy"
      exact qn _ (Same.refl _) (no fun h => h0 h.1)
def spAtom : Sp := fun vs H Q _ => ∃ s : Str, vs = [.str s] ∧ s.length ≤ 100000 ∧ ∀ H' v, Same H H' → IsD H' ((atomF s).elim Dt.non atD) v → Q v H'
theorem ok_atom_of (T : Tx K mg) : FnOk P w K mg base CX0 2 T.f_atom_of T.d_atom_of ["word"] spAtom := by
  refine T.F_atom_of.ok sc_atom_of (fun vs H Q E h => ?_) (fun cdv A outer s H vs Q E hr h => ?_)
  · obtain ⟨s, rfl, _⟩ := h
    rfl
  · obtain ⟨z, rfl, hz, q⟩ := h
    refine ⟨_, (pss_cons (ps_if (pt_val (pe_call (ok_is_name T) (hr.mono (by omega)) rfl T.m_is_name T.F_is_name.kp T.B_is_name .nil pass0 (pa_cons (pv 0) pa_nil)))
        (pss_one (ps_ret (pv 0)))
        pss_nil)
      (pss_one (ps_ret (pe_call (ok_number_of T) (hr.mono (by omega)) rfl T.m_number_of T.F_number_of.kp T.B_number_of .nil pass0 (pa_cons (pv 0) pa_nil))))), ?_⟩
    walk_at "sy"
    refine ⟨z, rfl, hz, fun H1 s1 => ?_⟩
    by_cases hn : nameOk z
    · refine ⟨true, congrArg V.bl (decide_eq_true hn), ?_⟩
      walk_at "sy"
      exact q _ _ s1 (by unfold atomF; rw [if_pos hn]; rfl)
    · refine ⟨false, congrArg V.bl (decide_eq_false hn), ?_⟩
      walk_at "sy"
      refine ⟨z, rfl, hz, fun H2 v s2 hv => q _ _ (s1.trans s2) ?_⟩
      unfold atomF
      rw [if_neg hn]
      cases e : numF z with
      | none => rw [e] at hv; exact hv
      | some n => rw [e] at hv; exact hv
theorem len_le_sum {x : Str} : ∀ {l : List Str}, x ∈ l → x.length ≤ (l.map fun s => s.length).sum
  | a :: l, h => by
    rw [List.map_cons, List.sum_cons]
    rcases List.mem_cons.mp h with rfl | h
    · omega
    · have := len_le_sum h
      omega
theorem all_nam (p : Str → Prop) [DecidablePred p] (l : List Str) : (l.map fun c => decide (p c)).all id = decide (∀ s ∈ l, p s) := by
  rw [List.all_map]
  apply Bool.eq_iff_iff.mpr
  simp only [List.all_eq_true, Function.comp, id, decide_eq_true_eq]
theorem map_at {α β : Type} {f : α → β} {l : List α} {i : Nat} {b : β} (h : (l.map f)[i]? = some b) : ∃ a, l[i]? = some a ∧ b = f a := by
  rw [List.getElem?_map] at h
  cases e : l[i]? with
  | none => rw [e] at h; cases h
  | some a => rw [e] at h; cases h; exact ⟨a, rfl, rfl⟩
theorem w_newStrs {H : Hp} {Q : VK} {ys : List Str} (h : ∀ p H1, New p (.lst (ys.map V.str)) H H1 → Q (.ref p) H1) : rNewStrs ys H Q := fun p hp => h p _ (New.mk' hp)
def spPath : Sp := fun vs H Q _ => ∃ s : Str, vs = [.str s] ∧ s.length ≤ 100000 ∧ ∀ H' v, Same H H' → IsD H' ((pathF s).elim Dt.non pathD) v → Q v H'
theorem ok_path_of (T : Tx K mg) : FnOk P w K mg base CX0 2 T.f_path_of T.d_path_of ["word"] spPath := by
  refine T.F_path_of.ok sc_path_of (fun vs H Q E h => ?_) (fun cdv A outer s H vs Q E hr h => ?_)
  · obtain ⟨s, rfl, _⟩ := h
    rfl
  · obtain ⟨z, rfl, hz, q⟩ := h
    refine ⟨_, (pss_cons (ps_set (i := 1) sc_path_of.nd rfl (Or.inl rfl) (pe_split (pv 0) pe_str))
      (pss_cons (ps_if (PW.pt (pw_or (pt_cmpR op_gt (pe_callB (len_seqK (K := K) rfl) (by rfl) T.n_len PySem.boot_len (pa_cons (pv 1) pa_nil)) (pe_globI rfl T.m_MOST_PATH) (nomark _)) (pw_or1 (pt_not (pt_val (pe_callB (cr_allK (K := K) rfl rfl) (by rfl) T.n_all (by decide +kernel) (pa_cons (pe_lc (own := [("part", 2)]) (g := gName 2) (tt := tYes) rfl sc_path_of.nd (pi_listK (K := K) rfl (pv 1)) (blkOk_by (own := [("part", 2)]) (N := ["word", "parts", "part"]) (sc := defScope s_path_of) (by decide +kernel)) (fun _ _ _ _ _ => pg_name (i := 2) sc_path_of.nd rfl (Or.inl rfl)) (fun _ _ _ _ _ => pts_nil) (fun _ _ _ _ _ => (pe_call (ok_is_name T) (hr.mono (by omega)) rfl T.m_is_name T.F_is_name.kp T.B_is_name .nil pass0 (pa_cons (pv 2) pa_nil)))) pa_nil)))))))
        (pss_one (ps_ret pe_non))
        pss_nil)
      (pss_one (ps_ret (pe_callTy (tuple_ofK (K := K) rfl) (by rfl) T.n_tuple PyProof.Rows.boot_tuple (pa_cons (pv 1) pa_nil)))))), ?_⟩
    have hsz := sizeLine_eq
    walk_at "sy"
    refine ⟨z, Str.ofString ".", rfl, rfl, by decide +kernel, by omega, w_newStrs fun p H1 n1 => ?_⟩
    have n1 : New p (.lst ((Txt.split z dotS).map V.str)) H H1 := n1
    have hw := PyProof.Rows.split_weight z dotS (by decide +kernel)
    have a1 := n1.at_
    walk_at "sy"
    rw [List.length_map]
    by_cases h4 : (Txt.split z dotS).length ≤ 4
    · refine iteDF (by omega) ?_
      walk_at "sy"
      refine k_lcL ((Txt.split z dotS).map V.str) (fun D i Hx => Same H1 Hx ∧ Hx D = some (.lst (((Txt.split z dotS).take i).map fun c => V.bl (decide (nameOk c))))) (fun D Hx n => ⟨n.same, n.at_⟩) (fun D i Hx _ h => SqL.of (h.1 _ _ a1)) ?_ ?_
      · skip
        rintro D hD i v Hx hx ⟨sx, hDx⟩
        obtain ⟨x, hx', rfl⟩ := map_at hx
        have hi := (List.getElem?_eq_some_iff.mp hx').1
        walk_at "sy"
        refine ⟨x, rfl, by have := len_le_sum (List.mem_of_getElem? hx'); omega, fun H3 s3 => ?_⟩
        refine w_acc (s3 _ _ hDx) (by rw [List.length_map, List.length_take]; omega) fun H2 c2 => ?_
        refine ⟨c2.sameOwn (sx.trans s3) hD, ?_⟩
        rw [take_snoc hx', List.map_append]
        exact c2.at_
      · rintro D hD Hx ⟨sx, hDx⟩
        rw [List.length_map, List.take_length] at hDx
        walk_at "sy"
        refine w_all (bs := (Txt.split z dotS).map fun c => decide (nameOk c)) (by rw [List.map_map]; exact hDx) ?_
        rw [all_nam]
        have sy : Same H Hx := n1.same.trans sx
        by_cases hl : ∀ p ∈ Txt.split z dotS, nameOk p
        · rw [decide_eq_true hl]
          have b1 := sx _ _ a1
          walk_at "sy"
          rename_i l hl' H4 n4
          exact q _ _ (sy.trans n4.same) (by unfold pathF; rw [if_pos ⟨h4, hl⟩]; exact ⟨l, _, rfl, n4.at_, isds_strs _⟩)
        · rw [decide_eq_false hl]
          walk_at "sy"
          exact q _ _ sy (by unfold pathF; rw [if_neg fun h => hl h.2]; rfl)
    · refine iteDT (by omega) ?_
      walk_at "sy"
      exact q _ _ n1.same (by unfold pathF; rw [if_neg fun h => h4 h.1]; rfl)
def spGivenF : Sp := fun vs H Q _ => ∃ s : Str, vs = [.str s] ∧ s.length ≤ 100000 ∧ ∀ H' v, Same H H' → IsD H' ((givenF s).elim Dt.non gvD) v → Q v H'
theorem dot_is : Str.ofString "." = ⟨#[46]⟩ := by decide +kernel
theorem ok_given_of (T : Tx K mg) : FnOk P w K mg base CX0 3 T.f_given_of T.d_given_of ["word"] spGivenF := by
  refine T.F_given_of.ok sc_given_of (fun vs H Q E h => ?_) (fun cdv A outer s H vs Q E hr h => ?_)
  · obtain ⟨s, rfl, _⟩ := h
    rfl
  · obtain ⟨z, rfl, hz, q⟩ := h
    refine ⟨_, (pss_cons (ps_if (pt_cmpR op_in_sign pe_str (pv 0) (by rfl))
        (pss_one (ps_ret (pe_call (ok_path_of T) (hr.mono (by omega)) rfl T.m_path_of T.F_path_of.kp T.B_path_of .nil pass0 (pa_cons (pv 0) pa_nil))))
        pss_nil)
      (pss_one (ps_ret (pe_call (ok_atom_of T) (hr.mono (by omega)) rfl T.m_atom_of T.F_atom_of.kp T.B_atom_of .nil pass0 (pa_cons (pv 0) pa_nil))))), ?_⟩
    walk_at "sy"
    refine ⟨46, z, congrArg V.str dot_is, rfl, ?_⟩
    by_cases hd : 46 ∈ z.cps.toList
    · refine ⟨true, congrArg V.bl (decide_eq_true hd), ?_⟩
      walk_at "sy"
      refine ⟨z, rfl, hz, fun H1 v s1 hv => q _ _ s1 ?_⟩
      unfold givenF
      rw [if_pos hd]
      cases e : pathF z with
      | none => rw [e] at hv; exact hv
      | some p => rw [e] at hv; exact hv
    · refine ⟨false, congrArg V.bl (decide_eq_false hd), ?_⟩
      walk_at "sy"
      refine ⟨z, rfl, hz, fun H1 v s1 hv => q _ _ s1 ?_⟩
      unfold givenF
      rw [if_neg hd]
      cases e : atomF z with
      | none => rw [e] at hv; exact hv
      | some p => rw [e] at hv; exact hv
end
end
section

local macro_rules | `(tactic| walk_at "use") => `(tactic| ((with_reducible apply use_SetRow); intro x dx H' n))
local macro_rules | `(tactic| walk_at "use") => `(tactic| ((with_reducible apply use_MakeRow); (· exact rfl); (· walk_at "look"); intro x dx H' n))
local macro_rules | `(tactic| walk_at "use") => `(tactic| ((with_reducible apply use_NoneRow); intro x dx H' n))
local macro_rules | `(tactic| walk_at "use") => `(tactic| ((with_reducible apply use_GiveRow); intro x dx H' n))
local macro_rules | `(tactic| walk_at "use") => `(tactic| ((with_reducible apply use_TakeRow); intro x dx H' n))
local macro_rules | `(tactic| walk_at "use") => `(tactic| ((with_reducible apply use_FillRow); intro x dx H' n))
local macro_rules | `(tactic| walk_at "use") => `(tactic| ((with_reducible apply use_SwapRow); intro x dx H' n))
local macro_rules | `(tactic| walk_at "use") => `(tactic| ((with_reducible apply use_GetRow); intro x dx H' n))
local macro_rules | `(tactic| walk_at "use") => `(tactic| ((with_reducible apply use_PutRow); intro x dx H' n))
local macro_rules | `(tactic| walk_at "use") => `(tactic| ((with_reducible apply use_HasRow); intro x dx H' n))
local macro_rules | `(tactic| walk_at "use") => `(tactic| ((with_reducible apply use_DropRow); intro x dx H' n))
local macro_rules | `(tactic| walk_at "use") => `(tactic| ((with_reducible apply use_LendRow); intro x dx H' n))
local macro_rules | `(tactic| walk_at "use") => `(tactic| ((with_reducible apply use_StepRow); intro x dx H' n))
local macro_rules | `(tactic| walk_at "use") => `(tactic| ((with_reducible apply use_CallRow); (· exact rfl); (· walk_at "look"); intro x dx H' n))
local macro_rules | `(tactic| walk_at "use") => `(tactic| ((with_reducible apply use_BackRow); intro x dx H' n))
local macro_rules | `(tactic| walk_at "use") => `(tactic| ((with_reducible apply use_AskRow); intro x dx H' n))
local macro_rules | `(tactic| walk_at "use") => `(tactic| ((with_reducible apply use_TellRow); intro x dx H' n))
local macro_rules | `(tactic| walk_at "use") => `(tactic| ((with_reducible apply use_IfRow); (· exact rfl); (· walk_at "look"); (· exact rfl); (· walk_at "look"); intro x dx H' n))
local macro_rules | `(tactic| walk_at "use") => `(tactic| ((with_reducible apply use_WhileRow); (· exact rfl); (· walk_at "look"); intro x dx H' n))
local macro_rules | `(tactic| walk_at "use") => `(tactic| ((with_reducible apply use_Record); (· exact rfl); (· walk_at "look"); intro x dx H' n))
local macro_rules | `(tactic| walk_at "use") => `(tactic| ((with_reducible apply use_Helper); (· exact rfl); (· walk_at "look"); (· exact rfl); (· walk_at "look"); intro x dx H' n))
local macro_rules | `(tactic| walk_at "use") => `(tactic| ((with_reducible apply use_Program); (· exact rfl); (· walk_at "look"); (· exact rfl); (· walk_at "look"); intro x dx H' n))
/-! ### classes made of lists (printed by mkcls05.py) -/
section
variable {P : Program} {w : World} {K : PySem.W.Frag} {mg : Str → Option Value} {base : Heap}
def spInitMakeRowL (T : Tx K mg) : Sp := fun vs H Q _ => ∃ (x dx : Addr) (v0 v1 : V) (q2 : Addr) (us2 : List V), vs = [.ref x, v0, v1, .ref q2] ∧ H x = some (.ins T.a_MakeRow dx []) ∧ H q2 = some (.lst us2) ∧ ∀ H', SameBut x H H' → (∃ r2 : Addr, H' x = some (.ins T.a_MakeRow dx (fsMakeRow v0 v1 (.ref r2))) ∧ H' r2 = some (.tup us2)) → Q .non H'
theorem ok_MakeRow_initL (T : Tx K mg) : FnOk P w K mg base CX0 1 T.f_MakeRow_init T.d_MakeRow_init ["self", "name", "record", "atoms"] (spInitMakeRowL T) := by
  refine T.F_MakeRow_init.ok sc_MakeRow_init (fun vs H Q E h => ?_) (fun cdv A outer s H vs Q E hr h => ?_)
  · obtain ⟨x, dx, v0, v1, q2, us2, rfl, _⟩ := h
    rfl
  · obtain ⟨x, dx, v0, v1, q2, us2, rfl, hx, hq2, q⟩ := h
    refine ⟨_, (pss_cons (ps_fld (pv 0) (pv 1) rfl)
      (pss_cons (ps_fld (pv 0) (pv 2) rfl)
      (pss_one (ps_fld (pv 0) (pe_callTy (tuple_ofK (K := K) rfl) (by rfl) T.n_tuple PyProof.Rows.boot_tuple (pa_cons (pv 3) pa_nil)) rfl)))), ?_⟩
    have ccl := T.cl_MakeRow
    have na0 := T.na_MakeRow_name
    have na1 := T.na_MakeRow_record
    have na2 := T.na_MakeRow_atoms
    walk_at "sy"
    refine q _ (by walk_at "bt") ?_
    exact ⟨_, by walk_at "look", by walk_at "look"⟩
theorem use_MakeRowL {T : Tx K mg} {H : Hp} {Q : VK} {E : XK} {v0 v1 : V} {q2 : Addr} {us2 : List V} (hq2 : H q2 = some (.lst us2)) (h : ∀ (x dx r2 : Addr) (H' : Hp), New x (.ins T.a_MakeRow dx (fsMakeRow v0 v1 (.ref r2))) H H' → H' r2 = some (.tup us2) → Q (.ref x) H') : kMake T.a_MakeRow (spInitMakeRowL T) [] E [v0, v1, .ref q2] H Q := by
  intro x dx hx hd hne
  refine ⟨x, dx, v0, v1, q2, us2, rfl, upd_same, by rw [upd_ne (ne_of_none hq2 hx), upd_ne (ne_of_none hq2 hd)]; exact hq2, fun H' sb hx' => ?_⟩
  obtain ⟨r2, hx', g2⟩ := hx'
  exact ⟨rfl, h x dx r2 H' ⟨hx, hx', sb.made hx hd⟩ g2⟩
def spInitCallRowL (T : Tx K mg) : Sp := fun vs H Q _ => ∃ (x dx : Addr) (v0 v1 : V) (q2 : Addr) (us2 : List V), vs = [.ref x, v0, v1, .ref q2] ∧ H x = some (.ins T.a_CallRow dx []) ∧ H q2 = some (.lst us2) ∧ ∀ H', SameBut x H H' → (∃ r2 : Addr, H' x = some (.ins T.a_CallRow dx (fsCallRow v0 v1 (.ref r2))) ∧ H' r2 = some (.tup us2)) → Q .non H'
theorem ok_CallRow_initL (T : Tx K mg) : FnOk P w K mg base CX0 1 T.f_CallRow_init T.d_CallRow_init ["self", "name", "helper", "given"] (spInitCallRowL T) := by
  refine T.F_CallRow_init.ok sc_CallRow_init (fun vs H Q E h => ?_) (fun cdv A outer s H vs Q E hr h => ?_)
  · obtain ⟨x, dx, v0, v1, q2, us2, rfl, _⟩ := h
    rfl
  · obtain ⟨x, dx, v0, v1, q2, us2, rfl, hx, hq2, q⟩ := h
    refine ⟨_, (pss_cons (ps_fld (pv 0) (pv 1) rfl)
      (pss_cons (ps_fld (pv 0) (pv 2) rfl)
      (pss_one (ps_fld (pv 0) (pe_callTy (tuple_ofK (K := K) rfl) (by rfl) T.n_tuple PyProof.Rows.boot_tuple (pa_cons (pv 3) pa_nil)) rfl)))), ?_⟩
    have ccl := T.cl_CallRow
    have na0 := T.na_CallRow_name
    have na1 := T.na_CallRow_helper
    have na2 := T.na_CallRow_given
    walk_at "sy"
    refine q _ (by walk_at "bt") ?_
    exact ⟨_, by walk_at "look", by walk_at "look"⟩
theorem use_CallRowL {T : Tx K mg} {H : Hp} {Q : VK} {E : XK} {v0 v1 : V} {q2 : Addr} {us2 : List V} (hq2 : H q2 = some (.lst us2)) (h : ∀ (x dx r2 : Addr) (H' : Hp), New x (.ins T.a_CallRow dx (fsCallRow v0 v1 (.ref r2))) H H' → H' r2 = some (.tup us2) → Q (.ref x) H') : kMake T.a_CallRow (spInitCallRowL T) [] E [v0, v1, .ref q2] H Q := by
  intro x dx hx hd hne
  refine ⟨x, dx, v0, v1, q2, us2, rfl, upd_same, by rw [upd_ne (ne_of_none hq2 hx), upd_ne (ne_of_none hq2 hd)]; exact hq2, fun H' sb hx' => ?_⟩
  obtain ⟨r2, hx', g2⟩ := hx'
  exact ⟨rfl, h x dx r2 H' ⟨hx, hx', sb.made hx hd⟩ g2⟩
end
local macro_rules | `(tactic| walk_at "use") => `(tactic| (with_reducible refine use_MakeRowL (by walk_at "look") fun x dx r0 H' n g0 => ?_))
local macro_rules | `(tactic| walk_at "use") => `(tactic| (with_reducible refine use_CallRowL (by walk_at "look") fun x dx r0 H' n g0 => ?_))
end
section

local macro_rules | `(tactic| walk_at "use") => `(tactic| ((with_reducible apply use_SetRow); intro x dx H' n))
local macro_rules | `(tactic| walk_at "use") => `(tactic| ((with_reducible apply use_MakeRow); (· exact rfl); (· walk_at "look"); intro x dx H' n))
local macro_rules | `(tactic| walk_at "use") => `(tactic| ((with_reducible apply use_NoneRow); intro x dx H' n))
local macro_rules | `(tactic| walk_at "use") => `(tactic| ((with_reducible apply use_GiveRow); intro x dx H' n))
local macro_rules | `(tactic| walk_at "use") => `(tactic| ((with_reducible apply use_TakeRow); intro x dx H' n))
local macro_rules | `(tactic| walk_at "use") => `(tactic| ((with_reducible apply use_FillRow); intro x dx H' n))
local macro_rules | `(tactic| walk_at "use") => `(tactic| ((with_reducible apply use_SwapRow); intro x dx H' n))
local macro_rules | `(tactic| walk_at "use") => `(tactic| ((with_reducible apply use_GetRow); intro x dx H' n))
local macro_rules | `(tactic| walk_at "use") => `(tactic| ((with_reducible apply use_PutRow); intro x dx H' n))
local macro_rules | `(tactic| walk_at "use") => `(tactic| ((with_reducible apply use_HasRow); intro x dx H' n))
local macro_rules | `(tactic| walk_at "use") => `(tactic| ((with_reducible apply use_DropRow); intro x dx H' n))
local macro_rules | `(tactic| walk_at "use") => `(tactic| ((with_reducible apply use_LendRow); intro x dx H' n))
local macro_rules | `(tactic| walk_at "use") => `(tactic| ((with_reducible apply use_StepRow); intro x dx H' n))
local macro_rules | `(tactic| walk_at "use") => `(tactic| ((with_reducible apply use_CallRow); (· exact rfl); (· walk_at "look"); intro x dx H' n))
local macro_rules | `(tactic| walk_at "use") => `(tactic| ((with_reducible apply use_BackRow); intro x dx H' n))
local macro_rules | `(tactic| walk_at "use") => `(tactic| ((with_reducible apply use_AskRow); intro x dx H' n))
local macro_rules | `(tactic| walk_at "use") => `(tactic| ((with_reducible apply use_TellRow); intro x dx H' n))
local macro_rules | `(tactic| walk_at "use") => `(tactic| ((with_reducible apply use_IfRow); (· exact rfl); (· walk_at "look"); (· exact rfl); (· walk_at "look"); intro x dx H' n))
local macro_rules | `(tactic| walk_at "use") => `(tactic| ((with_reducible apply use_WhileRow); (· exact rfl); (· walk_at "look"); intro x dx H' n))
local macro_rules | `(tactic| walk_at "use") => `(tactic| ((with_reducible apply use_Record); (· exact rfl); (· walk_at "look"); intro x dx H' n))
local macro_rules | `(tactic| walk_at "use") => `(tactic| ((with_reducible apply use_Helper); (· exact rfl); (· walk_at "look"); (· exact rfl); (· walk_at "look"); intro x dx H' n))
local macro_rules | `(tactic| walk_at "use") => `(tactic| ((with_reducible apply use_Program); (· exact rfl); (· walk_at "look"); (· exact rfl); (· walk_at "look"); intro x dx H' n))
local macro_rules | `(tactic| walk_at "use") => `(tactic| (with_reducible refine w_chain ?_))
local macro_rules | `(tactic| walk_at "use") => `(tactic| ((with_reducible apply w_lenStr); (· omega)))
local macro_rules | `(tactic| walk_at "use") => `(tactic| (with_reducible refine w_iStr ?_))
local macro_rules | `(tactic| walk_at "use") => `(tactic| (with_reducible refine w_itS ?_))
local macro_rules | `(tactic| walk_at "use") => `(tactic| ((with_reducible refine w_GT ?_); intro a ha))
local macro_rules | `(tactic| walk_at "use") => `(tactic| ((with_reducible apply w_ninC); (· assumption)))
local macro_rules | `(tactic| walk_at "use") => `(tactic| ((with_reducible apply w_inC); (· assumption)))
/-! ### rows read from words -/
section
variable {P : Program} {w : World} {K : PySem.W.Frag} {mg : Str → Option Value} {base : Heap}
def atV : At → V
  | .num n => .int (n : Int)
  | .nam s => .str s
theorem atD_is {H : Hp} {a : At} {v : V} (h : IsD H (atD a) v) : v = atV a := by cases a <;> exact h
theorem is_atD {H : Hp} {a : At} : IsD H (atD a) (atV a) := by cases a <;> exact rfl
structure WAt (H : Hp) (a : Addr) (ws : List Str) : Prop where
  at_ : H a = some (.lst (ws.map V.str))
  len : ws.length ≤ 100000
  all : ∀ w ∈ ws, w.length ≤ 100000
def spW (T : Tx K mg) (Pre : List Str → Prop) (F : List Str → Option Rw) : Sp := fun vs H Q _ => ∃ (a : Addr) (ws : List Str), vs = [.ref a] ∧ WAt H a ws ∧ Pre ws ∧ (∀ r H' v, F ws = some r → Same H H' → RowAt T H' r v → Q v H') ∧ ∀ H', F ws = none → Same H H' → Q .non H'
theorem isds_strs_eq {H : Hp} : ∀ {p : List Str} {vs : List V}, IsDs H (p.map Dt.str) vs → vs = p.map V.str
  | [], _, h => h
  | s :: r, _, h => by
    obtain ⟨v, vs, rfl, h1, h2⟩ := h
    rw [show v = V.str s from h1, isds_strs_eq h2]
    rfl
theorem atV_non (a : At) : decide (atV a = V.non) = false := by cases a <;> rfl
theorem w_nnT {a : At} {A B : Prop} (h : A) : if (!decide (atV a = V.non)) = true then A else B := by rw [atV_non]; exact iteBT rfl h
theorem w_nnF {a : At} {A B : Prop} (h : B) : if decide (atV a = V.non) = true then A else B := by rw [atV_non]; exact iteBF rfl h
theorem w_ndT {p A B : Prop} [Decidable p] (hp : ¬ p) (h : A) : if (!decide p) = true then A else B := by rw [decide_eq_false hp]; exact iteBT rfl h
theorem w_ndF {p A B : Prop} [Decidable p] (hp : p) (h : B) : if (!decide p) = true then A else B := by rw [decide_eq_true hp]; exact iteBF rfl h
theorem use_atomS {H : Hp} {Q : VK} {E : XK} {x : Str} {a : At} (e : atomF x = some a) (hx : x.length ≤ 100000) (h : ∀ H', Same H H' → Q (atV a) H') : spAtom ([.str x] ++ []) H Q E := ⟨x, rfl, hx, fun H' v s hv => by
  rw [e] at hv
  obtain rfl := atD_is hv
  exact h H' s⟩
theorem use_atomN {H : Hp} {Q : VK} {E : XK} {x : Str} (e : atomF x = none) (hx : x.length ≤ 100000) (h : ∀ H', Same H H' → Q .non H') : spAtom ([.str x] ++ []) H Q E := ⟨x, rfl, hx, fun H' v s hv => by
  rw [e] at hv
  obtain rfl : v = .non := hv
  exact h H' s⟩
theorem use_pathS {H : Hp} {Q : VK} {E : XK} {x : Str} {p : List Str} (e : pathF x = some p) (hx : x.length ≤ 100000) (h : ∀ H' (l : Addr), Same H H' → H' l = some (.tup (p.map V.str)) → Q (.ref l) H') : spPath ([.str x] ++ []) H Q E := ⟨x, rfl, hx, fun H' v s hv => by
  rw [e] at hv
  obtain ⟨l, vs, rfl, hl, hvs⟩ := hv
  have e2 : vs = p.map V.str := isds_strs_eq hvs
  subst e2
  exact h H' l s hl⟩
theorem use_pathN {H : Hp} {Q : VK} {E : XK} {x : Str} (e : pathF x = none) (hx : x.length ≤ 100000) (h : ∀ H', Same H H' → Q .non H') : spPath ([.str x] ++ []) H Q E := ⟨x, rfl, hx, fun H' v s hv => by
  rw [e] at hv
  obtain rfl : v = .non := hv
  exact h H' s⟩
theorem use_name {H : Hp} {Q : VK} {E : XK} {x : Str} (hx : x.length ≤ 100000) (h : ∀ H', Same H H' → Q (.bl (decide (nameOk x))) H') : spWordB (fun s => decide (nameOk s)) ([.str x] ++ []) H Q E := ⟨x, rfl, hx, h⟩
theorem use_kind {H : Hp} {Q : VK} {E : XK} {x : Str} (hx : x.length ≤ 100000) (h : ∀ H', Same H H' → Q (.bl (decide (kindS x))) H') : spWordB (fun s => decide (kindS s)) ([.str x] ++ []) H Q E := ⟨x, rfl, hx, h⟩
end
local macro_rules | `(tactic| walk_at "use") => `(tactic| (with_reducible refine use_atomS (by assumption) (by assumption) fun H' s => ?_))
local macro_rules | `(tactic| walk_at "use") => `(tactic| (with_reducible refine use_atomN (by assumption) (by assumption) fun H' s => ?_))
local macro_rules | `(tactic| walk_at "use") => `(tactic| (with_reducible refine use_pathS (by assumption) (by assumption) fun H' l s hl => ?_))
local macro_rules | `(tactic| walk_at "use") => `(tactic| (with_reducible refine use_pathN (by assumption) (by assumption) fun H' s => ?_))
local macro_rules | `(tactic| walk_at "use") => `(tactic| (with_reducible refine use_name (by assumption) fun H' s => ?_))
local macro_rules | `(tactic| walk_at "use") => `(tactic| (with_reducible refine use_kind (by assumption) fun H' s => ?_))
local macro_rules | `(tactic| walk_at "use") => `(tactic| (with_reducible refine w_nnT ?_))
local macro_rules | `(tactic| walk_at "use") => `(tactic| (with_reducible refine w_nnF ?_))
local macro_rules | `(tactic| walk_at "use") => `(tactic| (with_reducible refine iteDT (by assumption) ?_))
local macro_rules | `(tactic| walk_at "use") => `(tactic| (with_reducible refine iteDF (by assumption) ?_))
local macro_rules | `(tactic| walk_at "use") => `(tactic| (with_reducible refine w_ndT (by assumption) ?_))
local macro_rules | `(tactic| walk_at "use") => `(tactic| (with_reducible refine w_ndF (by assumption) ?_))
section
variable {P : Program} {w : World} {K : PySem.W.Frag} {mg : Str → Option Value} {base : Heap}
theorem ok_set_of (T : Tx K mg) : FnOk P w K mg base CX0 4 T.f_set_of T.d_set_of ["words"] (spW T (fun ws => 2 ≤ ws.length) setF) := by
  refine T.F_set_of.ok sc_set_of (fun vs H Q E h => ?_) (fun cdv A outer s H vs Q E hr h => ?_)
  · obtain ⟨a, ws, rfl, _⟩ := h
    rfl
  · obtain ⟨a, ws, rfl, ⟨ha, hl, hw⟩, hn, q1, q0⟩ := h
    refine ⟨_, (pss_cons (ps_if (PW.pt (pw_and (pt_cmpR op_eq (pe_callB (len_seqK (K := K) rfl) (by rfl) T.n_len PySem.boot_len (pa_cons (pv 0) pa_nil)) pe_int (nomark _)) (pw_and1 (pt_cmpR op_eq (pe_ix (ix_listK (K := K) rfl) (pv 0) pe_int (fun _ _ => rfl)) pe_str (nomark _)))))
        (pss_one (ps_ret (pe_ifExp (pt_cmp (pc_notN (pe_call (ok_path_of T) (hr.mono (by omega)) rfl T.m_path_of T.F_path_of.kp T.B_path_of .nil pass0 (pa_cons (pe_ix (ix_listK (K := K) rfl) (pv 0) pe_int (fun _ _ => rfl)) pa_nil)))) (pe_make T.Mk_HasRow (ok_HasRow_init T) (hr.mono (by omega)) rfl T.c_HasRow T.B_HasRow_init .nil pass0 (pa_cons (pe_ix (ix_listK (K := K) rfl) (pv 0) pe_int (fun _ _ => rfl)) (pa_cons (pe_call (ok_path_of T) (hr.mono (by omega)) rfl T.m_path_of T.F_path_of.kp T.B_path_of .nil pass0 (pa_cons (pe_ix (ix_listK (K := K) rfl) (pv 0) pe_int (fun _ _ => rfl)) pa_nil)) pa_nil))) pe_non)))
        pss_nil)
      (pss_cons (ps_if (PW.pt (pw_and (pt_cmpR op_eq (pe_callB (len_seqK (K := K) rfl) (by rfl) T.n_len PySem.boot_len (pa_cons (pv 0) pa_nil)) pe_int (nomark _)) (pw_and1 (pt_cmp (pc_notN (pe_call (ok_atom_of T) (hr.mono (by omega)) rfl T.m_atom_of T.F_atom_of.kp T.B_atom_of .nil pass0 (pa_cons (pe_ix (ix_listK (K := K) rfl) (pv 0) pe_int (fun _ _ => rfl)) pa_nil)))))))
        (pss_one (ps_ret (pe_make T.Mk_SetRow (ok_SetRow_init T) (hr.mono (by omega)) rfl T.c_SetRow T.B_SetRow_init .nil pass0 (pa_cons (pe_ix (ix_listK (K := K) rfl) (pv 0) pe_int (fun _ _ => rfl)) (pa_cons (pe_call (ok_atom_of T) (hr.mono (by omega)) rfl T.m_atom_of T.F_atom_of.kp T.B_atom_of .nil pass0 (pa_cons (pe_ix (ix_listK (K := K) rfl) (pv 0) pe_int (fun _ _ => rfl)) pa_nil)) (pa_cons pe_str (pa_cons pe_int pa_nil)))))))
        pss_nil)
      (pss_cons (ps_if (PW.pt (pw_or (pt_cmpR op_ne (pe_callB (len_seqK (K := K) rfl) (by rfl) T.n_len PySem.boot_len (pa_cons (pv 0) pa_nil)) pe_int (nomark _)) (pw_or1 (pt_cmpR (notIn_seqK (K := K) rfl) (pe_ix (ix_listK (K := K) rfl) (pv 0) pe_int (fun _ _ => rfl)) (pe_globT rfl T.m_SIGNS) (by rfl)))))
        (pss_one (ps_ret pe_non))
        pss_nil)
      (pss_cons (ps_if (PW.pt (pw_or (pt_cmp (pc_isN (pe_call (ok_atom_of T) (hr.mono (by omega)) rfl T.m_atom_of T.F_atom_of.kp T.B_atom_of .nil pass0 (pa_cons (pe_ix (ix_listK (K := K) rfl) (pv 0) pe_int (fun _ _ => rfl)) pa_nil)))) (pw_or1 (pt_cmp (pc_isN (pe_call (ok_atom_of T) (hr.mono (by omega)) rfl T.m_atom_of T.F_atom_of.kp T.B_atom_of .nil pass0 (pa_cons (pe_ix (ix_listK (K := K) rfl) (pv 0) pe_int (fun _ _ => rfl)) pa_nil)))))))
        (pss_one (ps_ret pe_non))
        pss_nil)
      (pss_one (ps_ret (pe_make T.Mk_SetRow (ok_SetRow_init T) (hr.mono (by omega)) rfl T.c_SetRow T.B_SetRow_init .nil pass0 (pa_cons (pe_ix (ix_listK (K := K) rfl) (pv 0) pe_int (fun _ _ => rfl)) (pa_cons (pe_call (ok_atom_of T) (hr.mono (by omega)) rfl T.m_atom_of T.F_atom_of.kp T.B_atom_of .nil pass0 (pa_cons (pe_ix (ix_listK (K := K) rfl) (pv 0) pe_int (fun _ _ => rfl)) pa_nil)) (pa_cons (pe_ix (ix_listK (K := K) rfl) (pv 0) pe_int (fun _ _ => rfl)) (pa_cons (pe_call (ok_atom_of T) (hr.mono (by omega)) rfl T.m_atom_of T.F_atom_of.kp T.B_atom_of .nil pass0 (pa_cons (pe_ix (ix_listK (K := K) rfl) (pv 0) pe_int (fun _ _ => rfl)) pa_nil)) pa_nil))))))))))), ?_⟩
    have hsz := sizeLine_eq
    match ws, ha, hl, hw, hn, q1, q0 with
    | [x0, x, y], ha, hl, hw, hn, q1, q0 =>
      have l2 := hw y (by simp)
      cases e : atomF y with
      | none =>
        walk_at "sy"
        exact q0 _ (by simp [setF, e]) (by walk_at "sm")
      | some y2 =>
        walk_at "sy"
        exact q1 (.set x y2 (wS "") (.num 0)) _ _ (by simp [setF, e]) (by walk_at "sm") ⟨_, _, _, _, _, _, rfl, by walk_at "look", rfl, is_atD, rfl, rfl⟩
    | [x0, x, h, p], ha, hl, hw, hn, q1, q0 =>
      have l3 := hw p (by simp)
      by_cases hh : h = wS "has"
      · cases e : pathF p with
        | none =>
          walk_at "sy"
          exact q0 _ (by simp [setF, e, hh]) (by walk_at "sm")
        | some y2 =>
          walk_at "sy"
          exact q1 (.has x y2) _ _ (by simp [setF, e, hh]) (by walk_at "sm") ⟨_, _, _, _, rfl, by walk_at "look", rfl, ⟨_, _, rfl, by walk_at "look", isds_strs _⟩⟩
      · walk_at "sy"
        exact q0 _ (by simp [setF, hh]) (by walk_at "sm")
    | [x0, x, y, g, b], ha, hl, hw, hn, q1, q0 =>
      have l2 := hw y (by simp)
      have l3 := hw g (by simp)
      have l4 := hw b (by simp)
      by_cases hg : g ∈ [Str.ofString "+", Str.ofString "-", Str.ofString "*", Str.ofString "<", Str.ofString "="]
      · have hg2 : g ∈ signL := hg
        cases e : atomF y with
        | none =>
          walk_at "sy"
          exact q0 _ (by simp [setF, e, hg2]) (by walk_at "sm")
        | some y2 =>
          cases e4 : atomF b with
          | none =>
            walk_at "sy"
            exact q0 _ (by simp [setF, e, e4, hg2]) (by walk_at "sm")
          | some b2 =>
            walk_at "sy"
            exact q1 (.set x y2 g b2) _ _ (by simp [setF, e, e4, hg2]) (by walk_at "sm") ⟨_, _, _, _, _, _, rfl, by walk_at "look", rfl, is_atD, rfl, is_atD⟩
      · have hg2 : ¬ g ∈ signL := hg
        walk_at "sy"
        exact q0 _ (by simp [setF, hg2]) (by walk_at "sm")
    | [x0, x], ha, hl, hw, hn, q1, q0 =>
      walk_at "sy"
      exact q0 _ (by simp [setF]) (by walk_at "sm")
    | [x0], ha, hl, hw, hn, q1, q0 => simp at hn
    | [], ha, hl, hw, hn, q1, q0 => simp at hn
    | x0 :: x1 :: x2 :: x3 :: x4 :: x5 :: x6, ha, hl, hw, hn, q1, q0 =>
      walk_at "sy"
      exact q0 _ (by simp [setF]) (by walk_at "sm")

theorem ok_into_row_of (T : Tx K mg) : FnOk P w K mg base CX0 4 T.f_into_row_of T.d_into_row_of ["words"] (spW T (fun ws => 2 ≤ ws.length) intoF) := by
  refine T.F_into_row_of.ok sc_into_row_of (fun vs H Q E h => ?_) (fun cdv A outer s H vs Q E hr h => ?_)
  · obtain ⟨a, ws, rfl, _⟩ := h
    rfl
  · obtain ⟨a, ws, rfl, ⟨ha, hl, hw⟩, hn, q1, q0⟩ := h
    refine ⟨_, (pss_cons (ps_set (i := 1) sc_into_row_of.nd rfl (Or.inl rfl) (pe_call (ok_path_of T) (hr.mono (by omega)) rfl T.m_path_of T.F_path_of.kp T.B_path_of .nil pass0 (pa_cons (pe_ix (ix_listK (K := K) rfl) (pv 0) pe_int (fun _ _ => rfl)) pa_nil)))
      (pss_cons (ps_if (PW.pt (pw_or (pt_cmp (pc_isN (pv 1))) (pw_or1 (pt_cmpR op_ne (pe_callB (len_seqK (K := K) rfl) (by rfl) T.n_len PySem.boot_len (pa_cons (pv 0) pa_nil)) pe_int (nomark _)))))
        (pss_one (ps_ret pe_non))
        pss_nil)
      (pss_cons (ps_if (pt_cmpR op_eq (pe_ix (ix_listK (K := K) rfl) (pv 0) pe_int (fun _ _ => rfl)) pe_str (nomark _))
        (pss_one (ps_ret (pe_ifExp (pt_val (pe_call (ok_is_name T) (hr.mono (by omega)) rfl T.m_is_name T.F_is_name.kp T.B_is_name .nil pass0 (pa_cons (pe_ix (ix_listK (K := K) rfl) (pv 0) pe_int (fun _ _ => rfl)) pa_nil))) (pe_make T.Mk_FillRow (ok_FillRow_init T) (hr.mono (by omega)) rfl T.c_FillRow T.B_FillRow_init .nil pass0 (pa_cons (pv 1) (pa_cons (pe_ix (ix_listK (K := K) rfl) (pv 0) pe_int (fun _ _ => rfl)) pa_nil))) pe_non)))
        pss_nil)
      (pss_one (ps_ret (pe_ifExp (pt_cmp (pc_notN (pe_call (ok_atom_of T) (hr.mono (by omega)) rfl T.m_atom_of T.F_atom_of.kp T.B_atom_of .nil pass0 (pa_cons (pe_ix (ix_listK (K := K) rfl) (pv 0) pe_int (fun _ _ => rfl)) pa_nil)))) (pe_make T.Mk_PutRow (ok_PutRow_init T) (hr.mono (by omega)) rfl T.c_PutRow T.B_PutRow_init .nil pass0 (pa_cons (pv 1) (pa_cons (pe_call (ok_atom_of T) (hr.mono (by omega)) rfl T.m_atom_of T.F_atom_of.kp T.B_atom_of .nil pass0 (pa_cons (pe_ix (ix_listK (K := K) rfl) (pv 0) pe_int (fun _ _ => rfl)) pa_nil)) pa_nil))) pe_non)))))), ?_⟩
    have hsz := sizeLine_eq
    match ws, ha, hl, hw, hn, q1, q0 with
    | [w0, p, y], ha, hl, hw, hn, q1, q0 =>
      have l1 := hw p (by simp)
      have l2 := hw y (by simp)
      cases e : pathF p with
      | none =>
        walk_at "sy"
        exact q0 _ (by simp [intoF, e]) (by walk_at "sm")
      | some p2 =>
        by_cases hf : w0 = wS "fill"
        · by_cases hy : nameOk y
          · walk_at "sy"
            exact q1 (.fill p2 y) _ _ (by simp [intoF, e, hf, hy]) (by walk_at "sm") ⟨_, _, _, _, rfl, by walk_at "look", ⟨_, _, rfl, by walk_at "look", isds_strs _⟩, rfl⟩
          · walk_at "sy"
            exact q0 _ (by simp [intoF, e, hf, hy]) (by walk_at "sm")
        · cases e2 : atomF y with
          | none =>
            walk_at "sy"
            exact q0 _ (by simp [intoF, e, hf, e2]) (by walk_at "sm")
          | some y2 =>
            walk_at "sy"
            exact q1 (.put p2 y2) _ _ (by simp [intoF, e, hf, e2]) (by walk_at "sm") ⟨_, _, _, _, rfl, by walk_at "look", ⟨_, _, rfl, by walk_at "look", isds_strs _⟩, is_atD⟩
    | [x0, p], ha, hl, hw, hn, q1, q0 =>
      have l1 := hw p (by simp)
      cases e : pathF p with
      | none =>
        walk_at "sy"
        exact q0 _ (by simp [intoF]) (by walk_at "sm")
      | some p2 =>
        walk_at "sy"
        exact q0 _ (by simp [intoF]) (by walk_at "sm")
    | [x0], ha, hl, hw, hn, q1, q0 => simp at hn
    | [], ha, hl, hw, hn, q1, q0 => simp at hn
    | x0 :: p :: x2 :: x3 :: x4, ha, hl, hw, hn, q1, q0 =>
      have l1 := hw p (by simp)
      have a1 : atI (List.map V.str (x0 :: p :: x2 :: x3 :: x4)) 1 = some (.str p) := atI_nat (j := 1) rfl
      cases e : pathF p with
      | none =>
        walk_at "sy"
        exact q0 _ (by simp [intoF]) (by walk_at "sm")
      | some p2 =>
        walk_at "sy"
        exact q0 _ (by simp [intoF]) (by walk_at "sm")

theorem ok_single_row_of (T : Tx K mg) : FnOk P w K mg base CX0 4 T.f_single_row_of T.d_single_row_of ["words"] (spW T (fun ws => ∃ w x, ws = [w, x]) singleF) := by
  refine T.F_single_row_of.ok sc_single_row_of (fun vs H Q E h => ?_) (fun cdv A outer s H vs Q E hr h => ?_)
  · obtain ⟨a, ws, rfl, _⟩ := h
    rfl
  · obtain ⟨a, ws, rfl, ⟨ha, hl, hw⟩, hn, q1, q0⟩ := h
    refine ⟨_, (pss_cons (ps_if (pt_cmpR op_eq (pe_ix (ix_listK (K := K) rfl) (pv 0) pe_int (fun _ _ => rfl)) pe_str (nomark _))
        (pss_one (ps_ret (pe_ifExp (pt_cmp (pc_notN (pe_call (ok_atom_of T) (hr.mono (by omega)) rfl T.m_atom_of T.F_atom_of.kp T.B_atom_of .nil pass0 (pa_cons (pe_ix (ix_listK (K := K) rfl) (pv 0) pe_int (fun _ _ => rfl)) pa_nil)))) (pe_make T.Mk_BackRow (ok_BackRow_init T) (hr.mono (by omega)) rfl T.c_BackRow T.B_BackRow_init .nil pass0 (pa_cons (pe_call (ok_atom_of T) (hr.mono (by omega)) rfl T.m_atom_of T.F_atom_of.kp T.B_atom_of .nil pass0 (pa_cons (pe_ix (ix_listK (K := K) rfl) (pv 0) pe_int (fun _ _ => rfl)) pa_nil)) pa_nil)) pe_non)))
        pss_nil)
      (pss_cons (ps_if (pt_cmpR op_eq (pe_ix (ix_listK (K := K) rfl) (pv 0) pe_int (fun _ _ => rfl)) pe_str (nomark _))
        (pss_one (ps_ret (pe_ifExp (pt_cmp (pc_notN (pe_call (ok_atom_of T) (hr.mono (by omega)) rfl T.m_atom_of T.F_atom_of.kp T.B_atom_of .nil pass0 (pa_cons (pe_ix (ix_listK (K := K) rfl) (pv 0) pe_int (fun _ _ => rfl)) pa_nil)))) (pe_make T.Mk_TellRow (ok_TellRow_init T) (hr.mono (by omega)) rfl T.c_TellRow T.B_TellRow_init .nil pass0 (pa_cons (pe_call (ok_atom_of T) (hr.mono (by omega)) rfl T.m_atom_of T.F_atom_of.kp T.B_atom_of .nil pass0 (pa_cons (pe_ix (ix_listK (K := K) rfl) (pv 0) pe_int (fun _ _ => rfl)) pa_nil)) pa_nil)) pe_non)))
        pss_nil)
      (pss_cons (ps_if (pt_not (pt_val (pe_call (ok_is_name T) (hr.mono (by omega)) rfl T.m_is_name T.F_is_name.kp T.B_is_name .nil pass0 (pa_cons (pe_ix (ix_listK (K := K) rfl) (pv 0) pe_int (fun _ _ => rfl)) pa_nil))))
        (pss_one (ps_ret pe_non))
        pss_nil)
      (pss_cons (ps_if (pt_cmpR op_eq (pe_ix (ix_listK (K := K) rfl) (pv 0) pe_int (fun _ _ => rfl)) pe_str (nomark _))
        (pss_one (ps_ret (pe_make T.Mk_DropRow (ok_DropRow_init T) (hr.mono (by omega)) rfl T.c_DropRow T.B_DropRow_init .nil pass0 (pa_cons (pe_ix (ix_listK (K := K) rfl) (pv 0) pe_int (fun _ _ => rfl)) pa_nil))))
        pss_nil)
      (pss_cons (ps_if (pt_cmpR op_eq (pe_ix (ix_listK (K := K) rfl) (pv 0) pe_int (fun _ _ => rfl)) pe_str (nomark _))
        (pss_one (ps_ret (pe_make T.Mk_AskRow (ok_AskRow_init T) (hr.mono (by omega)) rfl T.c_AskRow T.B_AskRow_init .nil pass0 (pa_cons (pe_ix (ix_listK (K := K) rfl) (pv 0) pe_int (fun _ _ => rfl)) pa_nil))))
        pss_nil)
      (pss_one (ps_ret pe_non))))))), ?_⟩
    have hsz := sizeLine_eq
    obtain ⟨w0, x, rfl⟩ := hn
    have l1 := hw x (by simp)
    by_cases hback : w0 = wS "back"
    · cases e : atomF x with
      | none =>
        walk_at "sy"
        exact q0 _ (by simp [singleF, hback, e]) (by walk_at "sm")
      | some y =>
        walk_at "sy"
        exact q1 (.back y) _ _ (by simp only [singleF]; rw [if_pos hback, e]; rfl) (by walk_at "sm") ⟨_, _, _, rfl, by walk_at "look", is_atD⟩
    by_cases htell : w0 = wS "tell"
    · cases e : atomF x with
      | none =>
        walk_at "sy"
        exact q0 _ (by simp [singleF, hback, htell, e]) (by walk_at "sm")
      | some y =>
        walk_at "sy"
        exact q1 (.tell y) _ _ (by simp only [singleF]; rw [if_neg hback, if_pos htell, e]; rfl) (by walk_at "sm") ⟨_, _, _, rfl, by walk_at "look", is_atD⟩
    by_cases hx : nameOk x
    · by_cases hd : w0 = wS "drop"
      · walk_at "sy"
        exact q1 (.drop x) _ _ (by simp only [singleF]; rw [if_neg hback, if_neg htell, if_pos hx, if_pos hd]) (by walk_at "sm") ⟨_, _, _, rfl, by walk_at "look", rfl⟩
      · by_cases hk : w0 = wS "ask"
        · walk_at "sy"
          exact q1 (.ask x) _ _ (by simp only [singleF]; rw [if_neg hback, if_neg htell, if_pos hx, if_neg hd, if_pos hk]) (by walk_at "sm") ⟨_, _, _, rfl, by walk_at "look", rfl⟩
        · walk_at "sy"
          exact q0 _ (by simp [singleF, hback, htell, hx, hd, hk]) (by walk_at "sm")
    · walk_at "sy"
      exact q0 _ (by simp [singleF, hback, htell, hx]) (by walk_at "sm")

def pathKs : List Str := ["take", "swap", "get", "look", "hand"].map Str.ofString
theorem ok_path_row_of (T : Tx K mg) : FnOk P w K mg base CX0 4 T.f_path_row_of T.d_path_row_of ["words"] (spW T (fun ws => ∃ w x y, ws = [w, x, y] ∧ w ∈ pathKs) pairF) := by
  refine T.F_path_row_of.ok sc_path_row_of (fun vs H Q E h => ?_) (fun cdv A outer s H vs Q E hr h => ?_)
  · obtain ⟨a, ws, rfl, _⟩ := h
    rfl
  · obtain ⟨a, ws, rfl, ⟨ha, hl, hw⟩, hn, q1, q0⟩ := h
    refine ⟨_, (pss_cons (ps_set (i := 1) sc_path_row_of.nd rfl (Or.inl rfl) (pe_call (ok_path_of T) (hr.mono (by omega)) rfl T.m_path_of T.F_path_of.kp T.B_path_of .nil pass0 (pa_cons (pe_ix (ix_listK (K := K) rfl) (pv 0) pe_int (fun _ _ => rfl)) pa_nil)))
      (pss_cons (ps_if (pt_cmp (pc_isN (pv 1)))
        (pss_one (ps_ret pe_non))
        pss_nil)
      (pss_cons (ps_if (pt_cmpR op_eq (pe_ix (ix_listK (K := K) rfl) (pv 0) pe_int (fun _ _ => rfl)) pe_str (nomark _))
        (pss_one (ps_ret (pe_make T.Mk_TakeRow (ok_TakeRow_init T) (hr.mono (by omega)) rfl T.c_TakeRow T.B_TakeRow_init .nil pass0 (pa_cons (pe_ix (ix_listK (K := K) rfl) (pv 0) pe_int (fun _ _ => rfl)) (pa_cons (pv 1) pa_nil)))))
        pss_nil)
      (pss_cons (ps_if (pt_cmpR op_eq (pe_ix (ix_listK (K := K) rfl) (pv 0) pe_int (fun _ _ => rfl)) pe_str (nomark _))
        (pss_one (ps_ret (pe_make T.Mk_SwapRow (ok_SwapRow_init T) (hr.mono (by omega)) rfl T.c_SwapRow T.B_SwapRow_init .nil pass0 (pa_cons (pe_ix (ix_listK (K := K) rfl) (pv 0) pe_int (fun _ _ => rfl)) (pa_cons (pv 1) pa_nil)))))
        pss_nil)
      (pss_cons (ps_if (pt_cmpR op_eq (pe_ix (ix_listK (K := K) rfl) (pv 0) pe_int (fun _ _ => rfl)) pe_str (nomark _))
        (pss_one (ps_ret (pe_make T.Mk_GetRow (ok_GetRow_init T) (hr.mono (by omega)) rfl T.c_GetRow T.B_GetRow_init .nil pass0 (pa_cons (pe_ix (ix_listK (K := K) rfl) (pv 0) pe_int (fun _ _ => rfl)) (pa_cons (pv 1) pa_nil)))))
        pss_nil)
      (pss_one (ps_ret (pe_make T.Mk_LendRow (ok_LendRow_init T) (hr.mono (by omega)) rfl T.c_LendRow T.B_LendRow_init .nil pass0 (pa_cons (pe_ix (ix_listK (K := K) rfl) (pv 0) pe_int (fun _ _ => rfl)) (pa_cons (pe_ix (ix_listK (K := K) rfl) (pv 0) pe_int (fun _ _ => rfl)) (pa_cons (pv 1) pa_nil))))))))))), ?_⟩
    have hsz := sizeLine_eq
    obtain ⟨w0, x, y, rfl, hk⟩ := hn
    have l2 := hw y (by simp)
    have hk : w0 = wS "take" ∨ w0 = wS "swap" ∨ w0 = wS "get" ∨ w0 = wS "look" ∨ w0 = wS "hand" := by simpa [pathKs] using hk
    cases e : pathF y with
    | none =>
      walk_at "sy"
      exact q0 _ (by rcases hk with h | h | h | h | h <;> subst h <;> simp [pairF, e]) (by walk_at "sm")
    | some p =>
      rcases hk with h | h | h | h | h
      · skip
        walk_at "sy"
        exact q1 (.take x p) _ _ (by simp only [pairF]; rw [if_pos h, e]; rfl) (by walk_at "sm") ⟨_, _, _, _, rfl, by walk_at "look", rfl, ⟨_, _, rfl, by walk_at "look", isds_strs _⟩⟩
      · skip
        have n0 : ¬ w0 = wS "take" := by rw [h]; decide +kernel
        walk_at "sy"
        exact q1 (.swap x p) _ _ (by simp only [pairF]; rw [if_neg n0, if_pos h, e]; rfl) (by walk_at "sm") ⟨_, _, _, _, rfl, by walk_at "look", rfl, ⟨_, _, rfl, by walk_at "look", isds_strs _⟩⟩
      · skip
        have n0 : ¬ w0 = wS "take" := by rw [h]; decide +kernel
        have n1 : ¬ w0 = wS "swap" := by rw [h]; decide +kernel
        walk_at "sy"
        exact q1 (.get x p) _ _ (by simp only [pairF]; rw [if_neg n0, if_neg n1, if_pos h, e]; rfl) (by walk_at "sm") ⟨_, _, _, _, rfl, by walk_at "look", rfl, ⟨_, _, rfl, by walk_at "look", isds_strs _⟩⟩
      · skip
        have n0 : ¬ w0 = wS "take" := by rw [h]; decide +kernel
        have n1 : ¬ w0 = wS "swap" := by rw [h]; decide +kernel
        have n2 : ¬ w0 = wS "get" := by rw [h]; decide +kernel
        walk_at "sy"
        exact q1 (.lend false x p) _ _ (by simp only [pairF]; rw [if_neg n0, if_neg n1, if_neg n2, if_pos h, e]; rfl) (by walk_at "sm") ⟨_, _, _, _, _, rfl, by walk_at "look", congrArg V.str h, rfl, ⟨_, _, rfl, by walk_at "look", isds_strs _⟩⟩
      · skip
        have n0 : ¬ w0 = wS "take" := by rw [h]; decide +kernel
        have n1 : ¬ w0 = wS "swap" := by rw [h]; decide +kernel
        have n2 : ¬ w0 = wS "get" := by rw [h]; decide +kernel
        have n3 : ¬ w0 = wS "look" := by rw [h]; decide +kernel
        walk_at "sy"
        exact q1 (.lend true x p) _ _ (by simp only [pairF]; rw [if_neg n0, if_neg n1, if_neg n2, if_neg n3, if_pos h, e]; rfl) (by walk_at "sm") ⟨_, _, _, _, _, rfl, by walk_at "look", congrArg V.str h, rfl, ⟨_, _, rfl, by walk_at "look", isds_strs _⟩⟩
theorem ok_pair_row_of (T : Tx K mg) : FnOk P w K mg base CX0 5 T.f_pair_row_of T.d_pair_row_of ["words"] (spW T (fun ws => ∃ w x y, ws = [w, x, y]) pairF) := by
  refine T.F_pair_row_of.ok sc_pair_row_of (fun vs H Q E h => ?_) (fun cdv A outer s H vs Q E hr h => ?_)
  · obtain ⟨a, ws, rfl, _⟩ := h
    rfl
  · obtain ⟨a, ws, rfl, ⟨ha, hl, hw⟩, hn, q1, q0⟩ := h
    refine ⟨_, (pss_cons (ps_if (pt_cmpR (in_seqK (K := K) rfl) (pe_ix (ix_listK (K := K) rfl) (pv 0) pe_int (fun _ _ => rfl)) (pe_tup (pa_cons pe_str (pa_cons pe_str (pa_cons pe_str (pa_cons pe_str (pa_cons pe_str pa_nil)))))) (by rfl))
        (pss_one (ps_ret (pe_call (ok_path_row_of T) (hr.mono (by omega)) rfl T.m_path_row_of T.F_path_row_of.kp T.B_path_row_of .nil pass0 (pa_cons (pv 0) pa_nil))))
        pss_nil)
      (pss_cons (ps_if (pt_not (pt_val (pe_call (ok_is_name T) (hr.mono (by omega)) rfl T.m_is_name T.F_is_name.kp T.B_is_name .nil pass0 (pa_cons (pe_ix (ix_listK (K := K) rfl) (pv 0) pe_int (fun _ _ => rfl)) pa_nil))))
        (pss_one (ps_ret pe_non))
        pss_nil)
      (pss_cons (ps_if (pt_cmpR op_eq (pe_ix (ix_listK (K := K) rfl) (pv 0) pe_int (fun _ _ => rfl)) pe_str (nomark _))
        (pss_one (ps_ret (pe_make T.Mk_NoneRow (ok_NoneRow_init T) (hr.mono (by omega)) rfl T.c_NoneRow T.B_NoneRow_init .nil pass0 (pa_cons (pe_ix (ix_listK (K := K) rfl) (pv 0) pe_int (fun _ _ => rfl)) (pa_cons (pe_ix (ix_listK (K := K) rfl) (pv 0) pe_int (fun _ _ => rfl)) pa_nil)))))
        pss_nil)
      (pss_cons (ps_if (pt_cmpR op_eq (pe_ix (ix_listK (K := K) rfl) (pv 0) pe_int (fun _ _ => rfl)) pe_str (nomark _))
        (pss_one (ps_ret (pe_make T.Mk_GiveRow (ok_GiveRow_init T) (hr.mono (by omega)) rfl T.c_GiveRow T.B_GiveRow_init .nil pass0 (pa_cons (pe_ix (ix_listK (K := K) rfl) (pv 0) pe_int (fun _ _ => rfl)) (pa_cons (pe_ix (ix_listK (K := K) rfl) (pv 0) pe_int (fun _ _ => rfl)) pa_nil)))))
        pss_nil)
      (pss_cons (ps_if (pt_cmpR op_eq (pe_ix (ix_listK (K := K) rfl) (pv 0) pe_int (fun _ _ => rfl)) pe_str (nomark _))
        (pss_one (ps_ret (pe_make T.Mk_StepRow (ok_StepRow_init T) (hr.mono (by omega)) rfl T.c_StepRow T.B_StepRow_init .nil pass0 (pa_cons (pe_ix (ix_listK (K := K) rfl) (pv 0) pe_int (fun _ _ => rfl)) (pa_cons (pe_ix (ix_listK (K := K) rfl) (pv 0) pe_int (fun _ _ => rfl)) pa_nil)))))
        pss_nil)
      (pss_one (ps_ret pe_non))))))), ?_⟩
    have hsz := sizeLine_eq
    obtain ⟨w0, x, y, rfl⟩ := hn
    have l2 := hw y (by simp)
    walk_at "sy"
    rename_i pt Ht nt
    have ei : inV (V.str w0) [V.str (Str.ofString "take"), V.str (Str.ofString "swap"), V.str (Str.ofString "get"), V.str (Str.ofString "look"), V.str (Str.ofString "hand")] = decide (w0 ∈ pathKs) := inV_strs w0 pathKs
    rw [ei]
    by_cases hk : w0 ∈ pathKs
    · refine iteDT hk ?_
      walk_at "sy"
      exact ⟨a, [w0, x, y], rfl, ⟨nt.same _ _ ha, hl, hw⟩, ⟨w0, x, y, rfl, hk⟩, fun r H' v e s hv => q1 r H' v e (nt.same.trans s) hv, fun H' e s => q0 H' e (nt.same.trans s)⟩
    · refine iteDF hk ?_
      have nk : ∀ k ∈ pathKs, ¬ w0 = k := fun k hk' e => hk (e ▸ hk')
      have n0 := nk (wS "take") (by simp [pathKs])
      have n1 := nk (wS "swap") (by simp [pathKs])
      have n2 := nk (wS "get") (by simp [pathKs])
      have n3 := nk (wS "look") (by simp [pathKs])
      have n4 := nk (wS "hand") (by simp [pathKs])
      by_cases hy : nameOk y
      · by_cases g0 : w0 = wS "none"
        · walk_at "sy"
          exact q1 (.non x y) _ _ (by simp only [pairF]; rw [if_neg n0, if_neg n1, if_neg n2, if_neg n3, if_neg n4, if_pos hy, if_pos g0]) (by walk_at "sm") ⟨_, _, _, _, rfl, by walk_at "look", rfl, rfl⟩
        · by_cases g1 : w0 = wS "give"
          · walk_at "sy"
            exact q1 (.give x y) _ _ (by simp only [pairF]; rw [if_neg n0, if_neg n1, if_neg n2, if_neg n3, if_neg n4, if_pos hy, if_neg g0, if_pos g1]) (by walk_at "sm") ⟨_, _, _, _, rfl, by walk_at "look", rfl, rfl⟩
          · by_cases g2 : w0 = wS "step"
            · walk_at "sy"
              exact q1 (.step x y) _ _ (by simp only [pairF]; rw [if_neg n0, if_neg n1, if_neg n2, if_neg n3, if_neg n4, if_pos hy, if_neg g0, if_neg g1, if_pos g2]) (by walk_at "sm") ⟨_, _, _, _, rfl, by walk_at "look", rfl, rfl⟩
            · walk_at "sy"
              exact q0 _ (by simp only [pairF]; rw [if_neg n0, if_neg n1, if_neg n2, if_neg n3, if_neg n4, if_pos hy, if_neg g0, if_neg g1, if_neg g2]) (by walk_at "sm")
      · walk_at "sy"
        exact q0 _ (by simp only [pairF]; rw [if_neg n0, if_neg n1, if_neg n2, if_neg n3, if_neg n4, if_neg hy]) (by walk_at "sm")

end
end
section

local macro_rules | `(tactic| walk_at "use") => `(tactic| ((with_reducible apply use_SetRow); intro x dx H' n))
local macro_rules | `(tactic| walk_at "use") => `(tactic| ((with_reducible apply use_MakeRow); (· exact rfl); (· walk_at "look"); intro x dx H' n))
local macro_rules | `(tactic| walk_at "use") => `(tactic| ((with_reducible apply use_NoneRow); intro x dx H' n))
local macro_rules | `(tactic| walk_at "use") => `(tactic| ((with_reducible apply use_GiveRow); intro x dx H' n))
local macro_rules | `(tactic| walk_at "use") => `(tactic| ((with_reducible apply use_TakeRow); intro x dx H' n))
local macro_rules | `(tactic| walk_at "use") => `(tactic| ((with_reducible apply use_FillRow); intro x dx H' n))
local macro_rules | `(tactic| walk_at "use") => `(tactic| ((with_reducible apply use_SwapRow); intro x dx H' n))
local macro_rules | `(tactic| walk_at "use") => `(tactic| ((with_reducible apply use_GetRow); intro x dx H' n))
local macro_rules | `(tactic| walk_at "use") => `(tactic| ((with_reducible apply use_PutRow); intro x dx H' n))
local macro_rules | `(tactic| walk_at "use") => `(tactic| ((with_reducible apply use_HasRow); intro x dx H' n))
local macro_rules | `(tactic| walk_at "use") => `(tactic| ((with_reducible apply use_DropRow); intro x dx H' n))
local macro_rules | `(tactic| walk_at "use") => `(tactic| ((with_reducible apply use_LendRow); intro x dx H' n))
local macro_rules | `(tactic| walk_at "use") => `(tactic| ((with_reducible apply use_StepRow); intro x dx H' n))
local macro_rules | `(tactic| walk_at "use") => `(tactic| ((with_reducible apply use_CallRow); (· exact rfl); (· walk_at "look"); intro x dx H' n))
local macro_rules | `(tactic| walk_at "use") => `(tactic| ((with_reducible apply use_BackRow); intro x dx H' n))
local macro_rules | `(tactic| walk_at "use") => `(tactic| ((with_reducible apply use_AskRow); intro x dx H' n))
local macro_rules | `(tactic| walk_at "use") => `(tactic| ((with_reducible apply use_TellRow); intro x dx H' n))
local macro_rules | `(tactic| walk_at "use") => `(tactic| ((with_reducible apply use_IfRow); (· exact rfl); (· walk_at "look"); (· exact rfl); (· walk_at "look"); intro x dx H' n))
local macro_rules | `(tactic| walk_at "use") => `(tactic| ((with_reducible apply use_WhileRow); (· exact rfl); (· walk_at "look"); intro x dx H' n))
local macro_rules | `(tactic| walk_at "use") => `(tactic| ((with_reducible apply use_Record); (· exact rfl); (· walk_at "look"); intro x dx H' n))
local macro_rules | `(tactic| walk_at "use") => `(tactic| ((with_reducible apply use_Helper); (· exact rfl); (· walk_at "look"); (· exact rfl); (· walk_at "look"); intro x dx H' n))
local macro_rules | `(tactic| walk_at "use") => `(tactic| ((with_reducible apply use_Program); (· exact rfl); (· walk_at "look"); (· exact rfl); (· walk_at "look"); intro x dx H' n))
local macro_rules | `(tactic| walk_at "use") => `(tactic| (with_reducible refine use_MakeRowL (by walk_at "look") fun x dx r0 H' n g0 => ?_))
local macro_rules | `(tactic| walk_at "use") => `(tactic| (with_reducible refine use_CallRowL (by walk_at "look") fun x dx r0 H' n g0 => ?_))
local macro_rules | `(tactic| walk_at "use") => `(tactic| (with_reducible refine w_chain ?_))
local macro_rules | `(tactic| walk_at "use") => `(tactic| ((with_reducible apply w_lenStr); (· omega)))
local macro_rules | `(tactic| walk_at "use") => `(tactic| (with_reducible refine w_iStr ?_))
local macro_rules | `(tactic| walk_at "use") => `(tactic| (with_reducible refine w_itS ?_))
local macro_rules | `(tactic| walk_at "use") => `(tactic| ((with_reducible refine w_GT ?_); intro a ha))
local macro_rules | `(tactic| walk_at "use") => `(tactic| ((with_reducible apply w_ninC); (· assumption)))
local macro_rules | `(tactic| walk_at "use") => `(tactic| ((with_reducible apply w_inC); (· assumption)))
local macro_rules | `(tactic| walk_at "use") => `(tactic| (with_reducible refine use_atomS (by assumption) (by assumption) fun H' s => ?_))
local macro_rules | `(tactic| walk_at "use") => `(tactic| (with_reducible refine use_atomN (by assumption) (by assumption) fun H' s => ?_))
local macro_rules | `(tactic| walk_at "use") => `(tactic| (with_reducible refine use_pathS (by assumption) (by assumption) fun H' l s hl => ?_))
local macro_rules | `(tactic| walk_at "use") => `(tactic| (with_reducible refine use_pathN (by assumption) (by assumption) fun H' s => ?_))
local macro_rules | `(tactic| walk_at "use") => `(tactic| (with_reducible refine use_name (by assumption) fun H' s => ?_))
local macro_rules | `(tactic| walk_at "use") => `(tactic| (with_reducible refine use_kind (by assumption) fun H' s => ?_))
local macro_rules | `(tactic| walk_at "use") => `(tactic| (with_reducible refine w_nnT ?_))
local macro_rules | `(tactic| walk_at "use") => `(tactic| (with_reducible refine w_nnF ?_))
local macro_rules | `(tactic| walk_at "use") => `(tactic| (with_reducible refine iteDT (by assumption) ?_))
local macro_rules | `(tactic| walk_at "use") => `(tactic| (with_reducible refine iteDF (by assumption) ?_))
local macro_rules | `(tactic| walk_at "use") => `(tactic| (with_reducible refine w_ndT (by assumption) ?_))
local macro_rules | `(tactic| walk_at "use") => `(tactic| (with_reducible refine w_ndF (by assumption) ?_))
/-! ### values of arguments as data; cuts; None among them -/
theorem atomF_ok {x s : Str} (h : atomF x = some (.nam s)) : nameOk s := by
  unfold atomF at h
  split at h
  · cases h
    assumption
  · cases e : numF x with
    | none => rw [e] at h; cases h
    | some n => rw [e] at h; cases h
theorem pathF_ok {x : Str} {p : List Str} (h : pathF x = some p) : ∀ s ∈ p, nameOk s := by
  unfold pathF at h
  split at h
  · rename_i hh
    cases h
    exact hh.2
  · cases h
theorem name_strOk {s : Str} (h : nameOk s) : PyData.strOk s = true := by
  unfold PyData.strOk
  rw [← Array.all_toList]
  exact List.all_eq_true.mpr fun c hc => decide_eq_true (by have := h.1 c hc; omega)
def strsOkG : Option Gv → Prop
  | some (.at (.nam s)) => PyData.strOk s = true
  | some (.path p) => ∀ s ∈ p, PyData.strOk s = true
  | _ => True
theorem givenF_ok (x : Str) : strsOkG (givenF x) := by
  unfold givenF
  split
  · cases e : pathF x with
    | none => trivial
    | some p => exact fun s hs => name_strOk (pathF_ok e s hs)
  · cases e : atomF x with
    | none => trivial
    | some a => cases a with
      | num n => trivial
      | nam s => exact name_strOk (atomF_ok e)
def gvP : Option Gv → PyData
  | none => .none
  | some (.at (.num n)) => .int (n : Int)
  | some (.at (.nam s)) => .str s
  | some (.path p) => .tuple (p.map PyData.str)
theorem strs_lay : ∀ p : List Str, (∀ s ∈ p, PyData.strOk s = true) → PyData.canLayAll0 (p.map PyData.str) = true ∧ PyData.depthAll (p.map PyData.str) = 0
  | [], _ => by simp [PyData.canLayAll0, PyData.depthAll]
  | s :: p, h => by
    have ih := strs_lay p fun t ht => h t (List.mem_cons_of_mem _ ht)
    have h2 := h s (List.mem_cons_self ..)
    simp only [List.map_cons, PyData.canLayAll0, PyData.depthAll, PyData.canLay0, PyData.depth, h2, Bool.true_and]
    exact ⟨ih.1, by omega⟩
theorem gv_lay (g : Option Gv) (h : strsOkG g) : (gvP g).canLay0 = true ∧ (gvP g).depth ≤ 1 := by
  match g, h with
  | none, _ => simp [gvP, PyData.canLay0, PyData.depth]
  | some (.at (.num n)), _ => simp [gvP, PyData.canLay0, PyData.depth]
  | some (.at (.nam s)), h =>
    have h2 : PyData.strOk s = true := h
    simp [gvP, PyData.canLay0, PyData.depth, h2]
  | some (.path p), h =>
    have h2 := strs_lay p h
    simp [gvP, PyData.canLay0, PyData.depth, h2.1, h2.2]
theorem gvs_lay : ∀ l : List (Option Gv), (∀ g ∈ l, strsOkG g) → PyData.canLayAll0 (l.map gvP) = true ∧ PyData.depthAll (l.map gvP) ≤ 1
  | [], _ => by simp [PyData.canLayAll0, PyData.depthAll]
  | g :: l, h => by
    have ih := gvs_lay l fun t ht => h t (List.mem_cons_of_mem _ ht)
    have h2 := gv_lay g (h g (List.mem_cons_self ..))
    simp only [List.map_cons, PyData.canLayAll0, PyData.depthAll, h2.1, Bool.true_and]
    exact ⟨ih.1, by omega⟩
theorem gvs_shaped {l : List (Option Gv)} (h : ∀ g ∈ l, strsOkG g) : SeqAt.shaped (.list (l.map gvP)) = true := by
  have h1 := gvs_lay l h
  unfold SeqAt.shaped
  rw [Bool.and_eq_true]
  refine ⟨by simp only [PyData.canLay0]; exact h1.1, decide_eq_true ?_⟩
  simp only [PyData.depth]
  omega
theorem non_shaped : SeqAt.shaped .none = true := by decide
def gvD' : Option Gv → Dt
  | none => .non
  | some g => gvD g
theorem elim_gv (o : Option Gv) : o.elim Dt.non gvD = gvD' o := by cases o <;> rfl
section
variable {K : PySem.W.Frag} {H : Hp}
theorem strs_dp : ∀ (p : List Str) (vs : List V), IsDs H (p.map Dt.str) vs → DpAll K H vs (p.map PyData.str)
  | [], _, h => by
    obtain rfl : _ = _ := h
    exact .nil
  | s :: p, _, h => by
    obtain ⟨v, vs, rfl, h1, h2⟩ := h
    obtain rfl : v = _ := h1
    exact .cons (.str _) (strs_dp p vs h2)
theorem gv_dp : ∀ (g : Option Gv) (v : V), IsD H (gvD' g) v → Dp K H v (gvP g)
  | none, v, h => by
    obtain rfl : v = .non := h
    exact .non
  | some (.at (.num n)), v, h => by
    obtain rfl : v = .int (n : Int) := h
    exact .int _
  | some (.at (.nam s)), v, h => by
    obtain rfl : v = .str s := h
    exact .str _
  | some (.path p), v, h => by
    obtain ⟨q, vs, rfl, hq, hvs⟩ := h
    exact .tup (SqT.of hq) (strs_dp p vs hvs)
theorem gvs_dp : ∀ (l : List (Option Gv)) (vs : List V), IsDs H (l.map gvD') vs → DpAll K H vs (l.map gvP)
  | [], _, h => by
    obtain rfl : _ = _ := h
    exact .nil
  | g :: l, _, h => by
    obtain ⟨v, vs, rfl, h1, h2⟩ := h
    exact .cons (gv_dp g v h1) (gvs_dp l vs h2)
theorem none_in : ∀ l : List (Option Gv), ((l.map gvP).any fun z => PyData.eqv z .none) = (optAll l).isNone
  | [] => rfl
  | none :: l => by
    rw [List.map_cons, List.any_cons]
    simp [gvP, PyData.eqv, optAll]
  | some g :: l => by
    have ih := none_in l
    rw [List.map_cons, List.any_cons, ih]
    have e : PyData.eqv (gvP (some g)) .none = false := by
      match g with
      | .at (.num n) => simp [gvP, PyData.eqv]
      | .at (.nam s) => simp [gvP, PyData.eqv]
      | .path p => simp [gvP, PyData.eqv]
    rw [e, Bool.false_or]
    show (optAll l).isNone = ((optAll l).map (g :: ·)).isNone
    cases optAll l <;> rfl
theorem optAll_some {α : Type} : ∀ {l : List (Option α)} {as : List α}, optAll l = some as → l = as.map some
  | [], as, h => by cases h; rfl
  | none :: l, as, h => by cases h
  | some a :: l, as, h => by
    unfold optAll at h
    cases e : optAll l with
    | none => rw [e] at h; cases h
    | some bs =>
      rw [e] at h
      cases h
      rw [optAll_some e]
      rfl
theorem w_inD {a : Addr} {vs : List V} {l : List (Option Gv)} {Q : VK} (ha : H a = some (.lst vs)) (hv : IsDs H (l.map gvD') vs) (ho : ∀ g ∈ l, strsOkG g) (q : Q (.bl (optAll l).isNone) H) : rInD K .non (.ref a) H Q :=
  ⟨.none, l.map gvP, .non, .lst (SqL.of ha) (gvs_dp l vs hv), non_shaped, gvs_shaped ho, by rw [none_in]; exact q⟩
end
def atG (o : Option At) : Option Gv := o.map Gv.at
theorem atG_all : ∀ l : List (Option At), optAll (l.map atG) = (optAll l).map (·.map Gv.at)
  | [] => rfl
  | none :: l => rfl
  | some a :: l => by
    have ih := atG_all l
    show (optAll (l.map atG)).map (Gv.at a :: ·) = ((optAll l).map (a :: ·)).map _
    rw [ih]
    cases optAll l <;> rfl
theorem hu65_of {k : Nat} {A : Around} (r : Room k A) : A.units + 65 < cLine := by have := r.un; omega
theorem cut_from {ws : List Str} (n : Nat) : cutV (ws.map V.str) (some (n : Int)) none = (ws.drop n).map V.str := by rw [cut_lo, List.map_drop]
theorem cut_last2 {ws : List Str} (h : 2 ≤ ws.length) : cutV (ws.map V.str) none (some (-2)) = (ws.take (ws.length - 2)).map V.str := by
  have e : HT.sIx (ws.map V.str).length (ws.map V.str).length (some (-2)) = ws.length - 2 := by
    simp only [HT.sIx, List.length_map]
    rw [if_pos (by omega)]
    omega
  unfold cutV
  rw [e, HT.sIx_none (ws.map V.str).length 0, List.drop_zero, Nat.sub_zero, List.map_take]
theorem at_last2 {ws : List Str} {x : Str} (h : 2 ≤ ws.length) (e : ws[ws.length - 2]? = some x) : atI (ws.map V.str) (-2) = some (.str x) := by
  unfold atI
  have hl : (ws.map V.str).length = ws.length := List.length_map ..
  rw [hl]
  simp only [List.getElem?_map]
  have e2 : ixN ws.length (-2) = some (ws.length - 2) := by
    unfold ixN
    rw [if_neg (by omega), if_pos (by omega)]
    exact congrArg some (by omega)
  rw [e2]
  show Option.map V.str ws[ws.length - 2]? = _
  rw [e]
  rfl
theorem at_last1 {ws : List Str} {x : Str} (h : 1 ≤ ws.length) (e : ws[ws.length - 1]? = some x) : atI (ws.map V.str) (-1) = some (.str x) := by
  unfold atI
  have hl : (ws.map V.str).length = ws.length := List.length_map ..
  rw [hl]
  simp only [List.getElem?_map]
  have e2 : ixN ws.length (-1) = some (ws.length - 1) := by
    unfold ixN
    rw [if_neg (by omega)]
    rw [if_pos (by omega)]
    exact congrArg some (by omega)
  rw [e2]
  show Option.map V.str ws[ws.length - 1]? = _
  rw [e]
  rfl
section
variable {P : Program} {w : World} {K : PySem.W.Frag} {mg : Str → Option Value} {base : Heap}
theorem ok_make_of (T : Tx K mg) : FnOk P w K mg base CX0 4 T.f_make_of T.d_make_of ["words"] (spW T (fun ws => 2 ≤ ws.length) makeF) := by
  refine T.F_make_of.ok sc_make_of (fun vs H Q E h => ?_) (fun cdv A outer s H vs Q E hr h => ?_)
  · obtain ⟨a, ws, rfl, _⟩ := h
    rfl
  · obtain ⟨a, ws, rfl, ⟨ha, hl, hw⟩, hn, q1, q0⟩ := h
    have hu65 := hu65_of hr
    refine ⟨_, (pss_cons (ps_if (PW.pt (pw_or (pt_cmpR op_lt (pe_callB (len_seqK (K := K) rfl) (by rfl) T.n_len PySem.boot_len (pa_cons (pv 0) pa_nil)) pe_int (nomark _)) (pw_or1 (pt_not (pt_val (pe_call (ok_is_name T) (hr.mono (by omega)) rfl T.m_is_name T.F_is_name.kp T.B_is_name .nil pass0 (pa_cons (pe_ix (ix_listK (K := K) rfl) (pv 0) pe_int (fun _ _ => rfl)) pa_nil)))))))
        (pss_one (ps_ret pe_non))
        pss_nil)
      (pss_cons (ps_setLc (i := 1) (own := [("word", 2)]) (g := gName 2) (tt := tYes) rfl sc_make_of.nd rfl rfl (sw_true rfl rfl rfl (by decide +kernel)) (pi_listK (K := K) rfl (pe_slice (sl_listK (K := K) rfl) (pv 0) (po_some pe_int) po_none)) (blkOk_by (own := [("word", 2)]) (N := ["words", "atoms", "word"]) (sc := defScope s_make_of) (by decide +kernel)) (fun _ _ _ _ _ => pg_name (i := 2) sc_make_of.nd rfl (Or.inl rfl)) (fun _ _ _ _ _ => pts_nil) (fun _ _ _ _ _ => (pe_ifExp (pt_cmpR op_eq (pv 2) pe_str (nomark _)) (pv 2) (pe_call (ok_atom_of T) (hr.mono (by omega)) rfl T.m_atom_of T.F_atom_of.kp T.B_atom_of .nil pass0 (pa_cons (pv 2) pa_nil)))))
      (pss_cons (ps_if (pt_cmpR (op_inD hu65) pe_non (pv 1) (by rfl))
        (pss_one (ps_ret pe_non))
        pss_nil)
      (pss_one (ps_ret (pe_make T.Mk_MakeRow (ok_MakeRow_initL T) (hr.mono (by omega)) rfl T.c_MakeRow T.B_MakeRow_init .nil pass0 (pa_cons (pe_ix (ix_listK (K := K) rfl) (pv 0) pe_int (fun _ _ => rfl)) (pa_cons (pe_ix (ix_listK (K := K) rfl) (pv 0) pe_int (fun _ _ => rfl)) (pa_cons (pv 1) pa_nil))))))))), ?_⟩
    have hsz := sizeLine_eq
    match ws, ha, hl, hw, hn, q1, q0 with
    | [x0, x], ha, hl, hw, hn, q1, q0 =>
      walk_at "sy"
      exact q0 _ (by simp [makeF]) (by walk_at "sm")
    | [x0, x, r], ha, hl, hw, hn, q1, q0 =>
      walk_at "sy"
      exact q0 _ (by simp [makeF]) (by walk_at "sm")
    | [x0], ha, hl, hw, hn, q1, q0 => simp at hn
    | [], ha, hl, hw, hn, q1, q0 => simp at hn
    | x0 :: x :: r :: y :: ys, ha, hl, hw, hn, q1, q0 =>
      have l2 := hw r (by simp)
      have a1 : atI (List.map V.str (x0 :: x :: r :: y :: ys)) 1 = some (.str x) := atI_nat (j := 1) rfl
      have a2 : atI (List.map V.str (x0 :: x :: r :: y :: ys)) 2 = some (.str r) := atI_nat (j := 2) rfl
      by_cases hr' : nameOk r
      · walk_at "sy"
        rename_i H1 s1 p2 H2 n2
        have e3 : cutV (List.map V.str (x0 :: x :: r :: y :: ys)) (some 3) none = (y :: ys).map V.str := cut_from (ws := x0 :: x :: r :: y :: ys) 3
        have n2 : New p2 (.lst ((y :: ys).map V.str)) H1 H2 := e3 ▸ n2
        have hl2 : (y :: ys).length ≤ 100000 := by simp only [List.length_cons] at hl ⊢; omega
        refine k_lcL ((y :: ys).map V.str) (fun D i Hx => Same H2 Hx ∧ ∃ vs, Hx D = some (.lst vs) ∧ vs.length = i ∧ IsDs Hx (((y :: ys).take i).map fun w => gvD' (atG (makeAtom w))) vs) (fun D Hx n => ⟨n.same, [], n.at_, rfl, rfl⟩) (fun D i Hx _ h => SqL.of (h.1 _ _ n2.at_)) ?_ ?_
        · rintro D hD i v Hx hx ⟨sx, vs, hDx, hvl, hvs⟩
          obtain ⟨x', hx', rfl⟩ := map_at hx
          have hi := (List.getElem?_eq_some_iff.mp hx').1
          have lx := hw x' (List.mem_cons_of_mem _ (List.mem_cons_of_mem _ (List.mem_cons_of_mem _ (List.mem_of_getElem? hx'))))
          have fin : ∀ (H3 H4 : Hp) (z : V), Same Hx H3 → IsD H3 (gvD' (atG (makeAtom x'))) z → Chg D (.lst vs) (.lst (vs ++ [z])) H3 H4 → (Same H2 H4 ∧ ∃ vs', H4 D = some (.lst vs') ∧ vs'.length = i + 1 ∧ IsDs H4 (((y :: ys).take (i + 1)).map fun w => gvD' (atG (makeAtom w))) vs') := fun H3 H4 z s3 hz c4 => by
            refine ⟨c4.sameOwn (sx.trans s3) hD, _, c4.at_, by simp [hvl], ?_⟩
            rw [take_snoc hx', List.map_append]
            exact IsDs.snoc (hz.keep c4.keepL) ((hvs.keep (Keep.of s3)).keep c4.keepL)
          by_cases hn' : x' = Str.ofString "none"
          · walk_at "sy"
            rename_i H4 c4
            exact fin _ _ _ (Same.refl _) (by unfold makeAtom; rw [if_pos hn']; rfl) c4
          · have en : makeAtom x' = atomF x' := by unfold makeAtom; rw [if_neg hn']
            cases ea : atomF x' with
            | none =>
              walk_at "sy"
              rename_i H3 s3 H4 c4
              exact fin _ _ _ s3 (by rw [en, ea]; rfl) c4
            | some b =>
              walk_at "sy"
              rename_i H3 s3 H4 c4
              exact fin _ _ _ s3 (by rw [en, ea]; exact is_atD) c4
        · rintro D hD Hx ⟨sx, vs, hDx, hvl, hvs⟩
          rw [List.length_map, List.take_length] at hvs
          have hvs : IsDs Hx (((y :: ys).map fun w => atG (makeAtom w)).map gvD') vs := by rw [List.map_map]; exact hvs
          have so : ∀ g ∈ (y :: ys).map fun w => atG (makeAtom w), strsOkG g := fun g hg => by
            obtain ⟨z, hz, rfl⟩ := List.mem_map.mp hg
            unfold makeAtom
            split
            · rename_i e
              rw [e]
              exact (by decide +kernel : PyData.strOk (wS "none") = true)
            · cases e : atomF z with
              | none => trivial
              | some b => cases b with
                | num n => trivial
                | nam s => exact name_strOk (atomF_ok e)
          have eo : optAll ((y :: ys).map fun w => atG (makeAtom w)) = (optAll ((y :: ys).map makeAtom)).map (·.map Gv.at) := by
            rw [← atG_all, List.map_map]
            rfl
          walk_at "sy"
          refine w_inD (l := (y :: ys).map fun w => atG (makeAtom w)) hDx hvs so ?_
          cases e : optAll ((y :: ys).map makeAtom) with
          | none =>
            rw [eo, e]
            walk_at "sy"
            exact q0 _ (by simp only [makeF]; rw [if_pos hr', e]; rfl) (by walk_at "sm")
          | some as =>
            rw [eo, e]
            walk_at "sy"
            have em := optAll_some e
            have hvs2 : IsDs Hx (as.map atD) vs := by
              have e2 : ((y :: ys).map fun w => atG (makeAtom w)).map gvD' = as.map atD := by
                have : ((y :: ys).map fun w => atG (makeAtom w)) = ((y :: ys).map makeAtom).map atG := by rw [List.map_map]; rfl
                rw [this, em, List.map_map, List.map_map]
                rfl
              rw [← e2]
              exact hvs
            rename_i x7 d7 r7 H7 n7 g7
            exact q1 (.make x r as) _ _ (by simp only [makeF]; rw [if_pos hr', e]; rfl) (by walk_at "sm") ⟨_, _, _, _, _, rfl, n7.at_, rfl, rfl, ⟨_, _, rfl, g7, hvs2.keep (Keep.of n7.same)⟩⟩
      · walk_at "sy"
        exact q0 _ (by simp only [makeF]; rw [if_neg hr']) (by walk_at "sm")
theorem callF_two (w h : Str) (rest : List Str) : callF (w :: h :: rest) = (match lastTwo (wS "to") rest with
    | some z => if nameOk z then (optAll ((rest.take (rest.length - 2)).map givenF)).map (.call (some z) h) else none
    | none => (optAll (rest.map givenF)).map (.call none h)) := rfl
theorem ok_call_of (T : Tx K mg) : FnOk P w K mg base CX0 5 T.f_call_of T.d_call_of ["words"] (spW T (fun ws => 2 ≤ ws.length) callF) := by
  refine T.F_call_of.ok sc_call_of (fun vs H Q E h => ?_) (fun cdv A outer s H vs Q E hr h => ?_)
  · obtain ⟨a, ws, rfl, _⟩ := h
    rfl
  · obtain ⟨a, ws, rfl, ⟨ha, hl, hw⟩, hn, q1, q0⟩ := h
    have hu65 := hu65_of hr
    refine ⟨_, (pss_cons (ps_set (i := 1) sc_call_of.nd rfl (Or.inl rfl) pe_non)
      (pss_cons (ps_set (i := 2) sc_call_of.nd rfl (Or.inl rfl) (pe_slice (sl_listK (K := K) rfl) (pv 0) (po_some pe_int) po_none))
      (pss_cons (ps_if (PW.pt (pw_and (pt_cmpR op_gt (pe_callB (len_seqK (K := K) rfl) (by rfl) T.n_len PySem.boot_len (pa_cons (pv 2) pa_nil)) pe_int (nomark _)) (pw_and1 (pt_cmpR op_eq (pe_ix (ix_listK (K := K) rfl) (pv 2) (pe_un un_neg pe_int) (fun _ _ => rfl)) pe_str (nomark _)))))
        (pss_cons (ps_set (i := 1) sc_call_of.nd rfl (Or.inl rfl) (pe_ix (ix_listK (K := K) rfl) (pv 2) (pe_un un_neg pe_int) (fun _ _ => rfl)))
        (pss_cons (ps_set (i := 2) sc_call_of.nd rfl (Or.inl rfl) (pe_slice (sl_listK (K := K) rfl) (pv 2) po_none (po_some (pe_un un_neg pe_int))))
        (pss_one (ps_if (pt_not (pt_val (pe_call (ok_is_name T) (hr.mono (by omega)) rfl T.m_is_name T.F_is_name.kp T.B_is_name .nil pass0 (pa_cons (pv 1) pa_nil))))
          (pss_one (ps_ret pe_non))
          pss_nil))))
        pss_nil)
      (pss_cons (ps_setLc (i := 3) (own := [("word", 4)]) (g := gName 4) (tt := tYes) rfl sc_call_of.nd rfl rfl (sw_true rfl rfl rfl (by decide +kernel)) (pi_listK (K := K) rfl (pv 2)) (blkOk_by (own := [("word", 4)]) (N := ["words", "name", "rest", "given", "word"]) (sc := defScope s_call_of) (by decide +kernel)) (fun _ _ _ _ _ => pg_name (i := 4) sc_call_of.nd rfl (Or.inl rfl)) (fun _ _ _ _ _ => pts_nil) (fun _ _ _ _ _ => (pe_call (ok_given_of T) (hr.mono (by omega)) rfl T.m_given_of T.F_given_of.kp T.B_given_of .nil pass0 (pa_cons (pv 4) pa_nil))))
      (pss_cons (ps_if (pt_cmpR (op_inD hu65) pe_non (pv 3) (by rfl))
        (pss_one (ps_ret pe_non))
        pss_nil)
      (pss_one (ps_ret (pe_make T.Mk_CallRow (ok_CallRow_initL T) (hr.mono (by omega)) rfl T.c_CallRow T.B_CallRow_init .nil pass0 (pa_cons (pv 1) (pa_cons (pe_ix (ix_listK (K := K) rfl) (pv 0) pe_int (fun _ _ => rfl)) (pa_cons (pv 3) pa_nil))))))))))), ?_⟩
    have hsz := sizeLine_eq
    match ws, ha, hl, hw, hn, q1, q0 with
    | [x0], ha, hl, hw, hn, q1, q0 => simp at hn
    | [], ha, hl, hw, hn, q1, q0 => simp at hn
    | x0 :: x :: r, ha, hl, hw, hn, q1, q0 =>
      have a1 : atI (List.map V.str (x0 :: x :: r)) 1 = some (.str x) := atI_nat (j := 1) rfl
      have hrl : r.length ≤ 100000 := by simp only [List.length_cons] at hl; omega
      walk_at "sy"
      rename_i p1 H1 n1
      have e1 : cutV (List.map V.str (x0 :: x :: r)) (some 2) none = r.map V.str := cut_from (ws := x0 :: x :: r) 2
      rw [e1] at n1 ⊢
      rw [List.length_map]
      by_cases h1 : 1 < r.length
      · refine iteDT (by omega) ?_
        obtain ⟨k, hk⟩ : ∃ k, r[r.length - 2]? = some k := ⟨_, List.getElem?_eq_getElem (by omega)⟩
        obtain ⟨z, hz⟩ : ∃ k, r[r.length - 1]? = some k := ⟨_, List.getElem?_eq_getElem (by omega)⟩
        have b1 := at_last2 (by omega) hk
        have b2 := at_last1 (by omega) hz
        have lz := hw z (List.mem_cons_of_mem _ (List.mem_cons_of_mem _ (List.mem_of_getElem? hz)))
        by_cases ht : k = Str.ofString "to"
        · have el : lastTwo (wS "to") r = some z := by unfold lastTwo; rw [if_pos ⟨h1, by rw [hk, ht]⟩, hz]
          walk_at "sy"
          rename_i p3 H3 n3 H4 s4
          have e3 : cutV (List.map V.str r) none (some (-2)) = (r.take (r.length - 2)).map V.str := cut_last2 (by omega)
          have n3 : New p3 (.lst ((r.take (r.length - 2)).map V.str)) H1 H3 := e3 ▸ n3
          by_cases hz' : nameOk z
          · walk_at "sy"
            have hclen : ((r.take (r.length - 2))).length ≤ 100000 := (by rw [List.length_take]; omega)
            refine k_lcL (((r.take (r.length - 2))).map V.str) (fun D i Hx => Same H4 Hx ∧ ∃ vs, Hx D = some (.lst vs) ∧ vs.length = i ∧ IsDs Hx ((((r.take (r.length - 2))).take i).map fun w => gvD' (givenF w)) vs) (fun D Hx n => ⟨n.same, [], n.at_, rfl, rfl⟩) (fun D i Hx _ h => SqL.of (h.1 _ _ (s4 _ _ n3.at_))) ?_ ?_
            · rintro D hD i v Hx hx ⟨sx, vs, hDx, hvl, hvs⟩
              obtain ⟨x', hx', rfl⟩ := map_at hx
              have hi := (List.getElem?_eq_some_iff.mp hx').1
              have lx := hw x' ((fun h => List.mem_cons_of_mem _ (List.mem_cons_of_mem _ (List.mem_of_mem_take h))) (List.mem_of_getElem? hx'))
              walk_at "sy"
              refine ⟨x', rfl, lx, fun H3 z s3 hz => ?_⟩
              refine w_acc (s3 _ _ hDx) (by omega) fun H4 c4 => ?_
              refine ⟨c4.sameOwn (sx.trans s3) hD, _, c4.at_, by simp [hvl], ?_⟩
              rw [take_snoc hx', List.map_append]
              exact IsDs.snoc ((elim_gv (givenF x') ▸ hz).keep c4.keepL) ((hvs.keep (Keep.of s3)).keep c4.keepL)
            · skip
              rintro D hD Hx ⟨sx, vs, hDx, hvl, hvs⟩
              rw [List.length_map, List.take_length] at hvs
              have hvs : IsDs Hx ((((r.take (r.length - 2))).map givenF).map gvD') vs := by rw [List.map_map]; exact hvs
              have so : ∀ g ∈ ((r.take (r.length - 2))).map givenF, strsOkG g := fun g hg => by
                obtain ⟨z, hz, rfl⟩ := List.mem_map.mp hg
                exact givenF_ok z
              walk_at "sy"
              refine w_inD (l := ((r.take (r.length - 2))).map givenF) hDx hvs so ?_
              cases e : optAll (((r.take (r.length - 2))).map givenF) with
              | none =>
                walk_at "sy"
                exact q0 _ (by rw [callF_two, el]; dsimp only; rw [if_pos hz']; rw [e]; rfl) (by walk_at "sm")
              | some as =>
                walk_at "sy"
                have em := optAll_some e
                have hvs2 : IsDs Hx (as.map gvD) vs := by
                  have e2 : (((r.take (r.length - 2))).map givenF).map gvD' = as.map gvD := by
                    rw [em, List.map_map]
                    rfl
                  rw [← e2]
                  exact hvs
                rename_i x7 d7 r7 H7 n7 g7
                exact q1 (.call (some z) x as) _ _ (by rw [callF_two, el]; dsimp only; rw [if_pos hz']; rw [e]; rfl) (by walk_at "sm") ⟨_, _, _, _, _, rfl, n7.at_, rfl, rfl, ⟨_, _, rfl, g7, hvs2.keep (Keep.of n7.same)⟩⟩
          · walk_at "sy"
            exact q0 _ (by rw [callF_two, el]; dsimp only; rw [if_neg hz']) (by walk_at "sm")
        · have el : lastTwo (wS "to") r = none := by unfold lastTwo; rw [if_neg fun h => ht (Option.some.inj (hk.symm.trans h.2))]
          walk_at "sy"
          have hclen : (r).length ≤ 100000 := hrl
          refine k_lcL ((r).map V.str) (fun D i Hx => Same H1 Hx ∧ ∃ vs, Hx D = some (.lst vs) ∧ vs.length = i ∧ IsDs Hx (((r).take i).map fun w => gvD' (givenF w)) vs) (fun D Hx n => ⟨n.same, [], n.at_, rfl, rfl⟩) (fun D i Hx _ h => SqL.of (h.1 _ _ n1.at_)) ?_ ?_
          · rintro D hD i v Hx hx ⟨sx, vs, hDx, hvl, hvs⟩
            obtain ⟨x', hx', rfl⟩ := map_at hx
            have hi := (List.getElem?_eq_some_iff.mp hx').1
            have lx := hw x' ((fun h => List.mem_cons_of_mem _ (List.mem_cons_of_mem _ h)) (List.mem_of_getElem? hx'))
            walk_at "sy"
            refine ⟨x', rfl, lx, fun H3 z s3 hz => ?_⟩
            refine w_acc (s3 _ _ hDx) (by omega) fun H4 c4 => ?_
            refine ⟨c4.sameOwn (sx.trans s3) hD, _, c4.at_, by simp [hvl], ?_⟩
            rw [take_snoc hx', List.map_append]
            exact IsDs.snoc ((elim_gv (givenF x') ▸ hz).keep c4.keepL) ((hvs.keep (Keep.of s3)).keep c4.keepL)
          · skip
            rintro D hD Hx ⟨sx, vs, hDx, hvl, hvs⟩
            rw [List.length_map, List.take_length] at hvs
            have hvs : IsDs Hx (((r).map givenF).map gvD') vs := by rw [List.map_map]; exact hvs
            have so : ∀ g ∈ (r).map givenF, strsOkG g := fun g hg => by
              obtain ⟨z, hz, rfl⟩ := List.mem_map.mp hg
              exact givenF_ok z
            walk_at "sy"
            refine w_inD (l := (r).map givenF) hDx hvs so ?_
            cases e : optAll ((r).map givenF) with
            | none =>
              walk_at "sy"
              exact q0 _ (by rw [callF_two, el]; rw [e]; rfl) (by walk_at "sm")
            | some as =>
              walk_at "sy"
              have em := optAll_some e
              have hvs2 : IsDs Hx (as.map gvD) vs := by
                have e2 : ((r).map givenF).map gvD' = as.map gvD := by
                  rw [em, List.map_map]
                  rfl
                rw [← e2]
                exact hvs
              rename_i x7 d7 r7 H7 n7 g7
              exact q1 (.call none x as) _ _ (by rw [callF_two, el]; rw [e]; rfl) (by walk_at "sm") ⟨_, _, _, _, _, rfl, n7.at_, rfl, rfl, ⟨_, _, rfl, g7, hvs2.keep (Keep.of n7.same)⟩⟩
      · refine iteDF (by omega) ?_
        have el : lastTwo (wS "to") r = none := by unfold lastTwo; rw [if_neg fun h => h1 h.1]
        walk_at "sy"
        have hclen : (r).length ≤ 100000 := hrl
        refine k_lcL ((r).map V.str) (fun D i Hx => Same H1 Hx ∧ ∃ vs, Hx D = some (.lst vs) ∧ vs.length = i ∧ IsDs Hx (((r).take i).map fun w => gvD' (givenF w)) vs) (fun D Hx n => ⟨n.same, [], n.at_, rfl, rfl⟩) (fun D i Hx _ h => SqL.of (h.1 _ _ n1.at_)) ?_ ?_
        · rintro D hD i v Hx hx ⟨sx, vs, hDx, hvl, hvs⟩
          obtain ⟨x', hx', rfl⟩ := map_at hx
          have hi := (List.getElem?_eq_some_iff.mp hx').1
          have lx := hw x' ((fun h => List.mem_cons_of_mem _ (List.mem_cons_of_mem _ h)) (List.mem_of_getElem? hx'))
          walk_at "sy"
          refine ⟨x', rfl, lx, fun H3 z s3 hz => ?_⟩
          refine w_acc (s3 _ _ hDx) (by omega) fun H4 c4 => ?_
          refine ⟨c4.sameOwn (sx.trans s3) hD, _, c4.at_, by simp [hvl], ?_⟩
          rw [take_snoc hx', List.map_append]
          exact IsDs.snoc ((elim_gv (givenF x') ▸ hz).keep c4.keepL) ((hvs.keep (Keep.of s3)).keep c4.keepL)
        · skip
          rintro D hD Hx ⟨sx, vs, hDx, hvl, hvs⟩
          rw [List.length_map, List.take_length] at hvs
          have hvs : IsDs Hx (((r).map givenF).map gvD') vs := by rw [List.map_map]; exact hvs
          have so : ∀ g ∈ (r).map givenF, strsOkG g := fun g hg => by
            obtain ⟨z, hz, rfl⟩ := List.mem_map.mp hg
            exact givenF_ok z
          walk_at "sy"
          refine w_inD (l := (r).map givenF) hDx hvs so ?_
          cases e : optAll ((r).map givenF) with
          | none =>
            walk_at "sy"
            exact q0 _ (by rw [callF_two, el]; rw [e]; rfl) (by walk_at "sm")
          | some as =>
            walk_at "sy"
            have em := optAll_some e
            have hvs2 : IsDs Hx (as.map gvD) vs := by
              have e2 : ((r).map givenF).map gvD' = as.map gvD := by
                rw [em, List.map_map]
                rfl
              rw [← e2]
              exact hvs
            rename_i x7 d7 r7 H7 n7 g7
            exact q1 (.call none x as) _ _ (by rw [callF_two, el]; rw [e]; rfl) (by walk_at "sm") ⟨_, _, _, _, _, rfl, n7.at_, rfl, rfl, ⟨_, _, rfl, g7, hvs2.keep (Keep.of n7.same)⟩⟩
end
end
section

/-! ### what one owns -/
abbrev Reg := List (Addr × HO)
def keys (r : Reg) : List Addr := r.map (·.1)
structure Own (H0 H : Hp) (r : Reg) : Prop where
  same : Same H0 H
  all : ∀ e ∈ r, H e.1 = some e.2
  nd : (keys r).Nodup
  fresh : ∀ a ∈ keys r, H0 a = none
/-- what stands, but these -/
def Only (F : List Addr) (H H' : Hp) : Prop := ∀ b o, H b = some o → b ∉ F → H' b = some o
theorem Only.refl (F : List Addr) (H : Hp) : Only F H H := fun _ _ e _ => e
theorem Only.same {F : List Addr} {H H1 H2 : Hp} (o : Only F H H1) (s : Same H1 H2) : Only F H H2 := fun b u e m => s _ _ (o b u e m)
theorem Only.chg {F : List Addr} {H H1 H2 : Hp} {q : Addr} {a b : HO} (o : Only F H H1) (c : Chg q a b H1 H2) (hq : q ∈ F) : Only F H H2 := fun x u e m => c.but _ _ (o x u e m) (fun z => m (z ▸ hq))
theorem Only.trans {F : List Addr} {H H1 H2 : Hp} (o : Only F H H1) (p : Only F H1 H2) : Only F H H2 := fun b u e m => p b u (o b u e m) m
theorem Only.mono {F G : List Addr} {H H' : Hp} (o : Only F H H') (s : ∀ a ∈ F, a ∈ G) : Only G H H' := fun b u e m => o b u e fun z => m (s b z)
section
variable {H0 H H' : Hp} {r r' : Reg} {q : Addr} {a b : HO}
theorem Own.get (o : Own H0 H r) {q : Addr} {u : HO} (h : (q, u) ∈ r) : H q = some u := o.all _ h
theorem Own.step (o : Own H0 H r) (s : Same H H') : Own H0 H' r := ⟨o.same.trans s, fun e he => s _ _ (o.all e he), o.nd, o.fresh⟩
theorem keys_uniq : ∀ {r : Reg}, (keys r).Nodup → ∀ {p : Addr} {u v : HO}, (p, u) ∈ r → (p, v) ∈ r → u = v
  | [], _, _, _, _, h, _ => by cases h
  | (x, w) :: r, nd, p, u, v, h, g => by
    have nd' : x ∉ keys r ∧ (keys r).Nodup := List.nodup_cons.mp nd
    rcases List.mem_cons.mp h with h | h <;> rcases List.mem_cons.mp g with g | g
    · cases h
      cases g
      rfl
    · cases h
      exact absurd (List.mem_map_of_mem (f := (·.1)) g) nd'.1
    · cases g
      exact absurd (List.mem_map_of_mem (f := (·.1)) h) nd'.1
    · exact keys_uniq nd'.2 h g
theorem Own.chg (o : Own H0 H r) (c : Chg q a b H H') (hk : keys r' = keys r) (hb : (q, b) ∈ r') (hd : ∀ e ∈ r', e ∈ r ∨ e = (q, b)) : Own H0 H' r' := by
  have nd : (keys r').Nodup := hk ▸ o.nd
  have hq : H0 q = none := o.fresh q (hk ▸ List.mem_map_of_mem (f := (·.1)) hb)
  refine ⟨c.sameOwn o.same hq, fun e he => ?_, nd, fun x hx => o.fresh x (hk ▸ hx)⟩
  obtain ⟨p, u⟩ := e
  by_cases hp : p = q
  · subst hp
    cases keys_uniq nd he hb
    exact c.at_
  · rcases hd _ he with h | h
    · exact c.but _ _ (o.all _ h) hp
    · cases h
      exact absurd rfl hp
theorem Own.new {p : Addr} {u : HO} (o : Own H0 H r) (n : New p u H H') : Own H0 H' ((p, u) :: r) := by
  have o2 := o.step n.same
  have hp : p ∉ keys r := fun h => by
    obtain ⟨e, he, rfl⟩ := List.mem_map.mp h
    have := o.all e he
    rw [n.free] at this
    cases this
  refine ⟨o2.same, fun e he => ?_, List.nodup_cons.mpr ⟨hp, o.nd⟩, fun x hx => ?_⟩
  · rcases List.mem_cons.mp he with rfl | he
    · exact n.at_
    · exact o2.all e he
  · rcases List.mem_cons.mp hx with rfl | hx
    · exact o.same.free n.free
    · exact o.fresh x hx
theorem Own.sub (o : Own H0 H r) (s : List.Sublist r' r) : Own H0 H r' := ⟨o.same, fun e he => o.all e (s.subset he), (s.map _).nodup o.nd, fun x hx => o.fresh x ((s.map _).subset hx)⟩
theorem Own.perm (o : Own H0 H r) (s : r'.Perm r) : Own H0 H r' := ⟨o.same, fun e he => o.all e (s.subset he), (s.map _).nodup_iff.mpr o.nd, fun x hx => o.fresh x ((s.map _).subset hx)⟩
theorem Own.part {r1 r2 : Reg} (o : Own H0 H (r1 ++ r2)) (p : Own H0 H' r') (hk : keys r' = keys r1) (n : Only (keys r1) H H') : Own H0 H' (r' ++ r2) := by
  have nd := o.nd
  unfold keys at nd hk n
  rw [List.map_append, List.nodup_append] at nd
  refine ⟨p.same, fun e he => ?_, ?_, fun x hx => ?_⟩
  · rcases List.mem_append.mp he with he | he
    · exact p.all e he
    · exact n _ _ (o.all e (List.mem_append_right _ he)) fun z => nd.2.2 _ z _ (List.mem_map_of_mem he) rfl
  · unfold keys
    rw [List.map_append, hk, List.nodup_append]
    exact nd
  · unfold keys at hx
    rw [List.map_append, List.mem_append] at hx
    rcases hx with hx | hx
    · exact p.fresh x hx
    · exact o.fresh x (by unfold keys; rw [List.map_append]; exact List.mem_append_right _ hx)
theorem Own.fst {r1 r2 : Reg} (o : Own H0 H (r1 ++ r2)) : Own H0 H r1 := o.sub (List.sublist_append_left _ _)
theorem Own.snd {r1 r2 : Reg} (o : Own H0 H (r1 ++ r2)) : Own H0 H r2 := o.sub (List.sublist_append_right _ _)
theorem Own.alive (o : Own H0 H r) {x : Addr} (h : x ∈ keys r) : ∃ u, H x = some u := by
  obtain ⟨e, he, rfl⟩ := List.mem_map.mp h
  exact ⟨_, o.all e he⟩
/-- owned by itself, seen from a later base -/
theorem Own.only (o : Own H0 H r) (n : Only (keys r) H H') : Same H0 H' := fun x u e => n x u (o.same x u e) fun z => by
  rw [o.fresh x z] at e
  cases e
end
theorem Own.base {H00 H0 H : Hp} {r : Reg} (o : Own H0 H r) (s : Same H00 H0) : Own H00 H r := ⟨s.trans o.same, o.all, o.nd, fun a h => s.free (o.fresh a h)⟩
theorem Own.join {H0 H H' : Hp} {r r' : Reg} (o : Own H0 H r) (p : Own H H' r') : Own H0 H' (r' ++ r) := by
  refine ⟨o.same.trans p.same, fun e he => ?_, ?_, fun x hx => ?_⟩
  · rcases List.mem_append.mp he with he | he
    · exact p.all e he
    · exact p.same _ _ (o.all e he)
  · unfold keys
    rw [List.map_append, List.nodup_append]
    refine ⟨p.nd, o.nd, fun a ha b hb e => ?_⟩
    subst e
    obtain ⟨u, hu⟩ := o.alive hb
    have := p.fresh a ha
    rw [hu] at this
    cases this
  · unfold keys at hx
    rw [List.map_append, List.mem_append] at hx
    rcases hx with hx | hx
    · exact o.same.free (p.fresh x hx)
    · exact o.fresh x hx
theorem Own.nil {H H' : Hp} (s : Same H H') : Own H H' [] := ⟨s, fun e he => absurd he List.not_mem_nil, List.nodup_nil, fun a ha => absurd ha List.not_mem_nil⟩
theorem Only.ofSame {F : List Addr} {H H' : Hp} (s : Same H H') : Only F H H' := fun b u e _ => s b u e
/-! ### classes made of lists (printed by mkcls05.py) -/
section
variable {P : Program} {w : World} {K : PySem.W.Frag} {mg : Str → Option Value} {base : Heap}
def spInitIfRowL (T : Tx K mg) : Sp := fun vs H Q _ => ∃ (x dx : Addr) (v0 : V) (q1 q2 : Addr) (us1 us2 : List V), vs = [.ref x, v0, .ref q1, .ref q2] ∧ H x = some (.ins T.a_IfRow dx []) ∧ H q1 = some (.lst us1) ∧ H q2 = some (.lst us2) ∧ ∀ H', SameBut x H H' → (∃ r1 r2 : Addr, H' x = some (.ins T.a_IfRow dx (fsIfRow v0 (.ref r1) (.ref r2))) ∧ H' r1 = some (.tup us1) ∧ H' r2 = some (.tup us2)) → Q .non H'
theorem ok_IfRow_initL (T : Tx K mg) : FnOk P w K mg base CX0 1 T.f_IfRow_init T.d_IfRow_init ["self", "atom", "rows", "others"] (spInitIfRowL T) := by
  refine T.F_IfRow_init.ok sc_IfRow_init (fun vs H Q E h => ?_) (fun cdv A outer s H vs Q E hr h => ?_)
  · obtain ⟨x, dx, v0, q1, q2, us1, us2, rfl, _⟩ := h
    rfl
  · obtain ⟨x, dx, v0, q1, q2, us1, us2, rfl, hx, hq1, hq2, q⟩ := h
    refine ⟨_, (pss_cons (ps_fld (pv 0) (pv 1) rfl)
      (pss_cons (ps_fld (pv 0) (pe_callTy (tuple_ofK (K := K) rfl) (by rfl) T.n_tuple PyProof.Rows.boot_tuple (pa_cons (pv 2) pa_nil)) rfl)
      (pss_one (ps_fld (pv 0) (pe_callTy (tuple_ofK (K := K) rfl) (by rfl) T.n_tuple PyProof.Rows.boot_tuple (pa_cons (pv 3) pa_nil)) rfl)))), ?_⟩
    have ccl := T.cl_IfRow
    have na0 := T.na_IfRow_atom
    have na1 := T.na_IfRow_rows
    have na2 := T.na_IfRow_others
    walk_at "sy"
    refine q _ (by walk_at "bt") ?_
    exact ⟨_, _, by walk_at "look", by walk_at "look", by walk_at "look"⟩
theorem use_IfRowL {T : Tx K mg} {H : Hp} {Q : VK} {E : XK} {v0 : V} {q1 q2 : Addr} {us1 us2 : List V} (hq1 : H q1 = some (.lst us1)) (hq2 : H q2 = some (.lst us2)) (h : ∀ (x dx r1 r2 : Addr) (H' : Hp), New x (.ins T.a_IfRow dx (fsIfRow v0 (.ref r1) (.ref r2))) H H' → H' r1 = some (.tup us1) → H' r2 = some (.tup us2) → Q (.ref x) H') : kMake T.a_IfRow (spInitIfRowL T) [] E [v0, .ref q1, .ref q2] H Q := by
  intro x dx hx hd hne
  refine ⟨x, dx, v0, q1, q2, us1, us2, rfl, upd_same, by rw [upd_ne (ne_of_none hq1 hx), upd_ne (ne_of_none hq1 hd)]; exact hq1, by rw [upd_ne (ne_of_none hq2 hx), upd_ne (ne_of_none hq2 hd)]; exact hq2, fun H' sb hx' => ?_⟩
  obtain ⟨r1, r2, hx', g1, g2⟩ := hx'
  exact ⟨rfl, h x dx r1 r2 H' ⟨hx, hx', sb.made hx hd⟩ g1 g2⟩
def spInitWhileRowL (T : Tx K mg) : Sp := fun vs H Q _ => ∃ (x dx : Addr) (v0 : V) (q1 : Addr) (us1 : List V), vs = [.ref x, v0, .ref q1] ∧ H x = some (.ins T.a_WhileRow dx []) ∧ H q1 = some (.lst us1) ∧ ∀ H', SameBut x H H' → (∃ r1 : Addr, H' x = some (.ins T.a_WhileRow dx (fsWhileRow v0 (.ref r1))) ∧ H' r1 = some (.tup us1)) → Q .non H'
theorem ok_WhileRow_initL (T : Tx K mg) : FnOk P w K mg base CX0 1 T.f_WhileRow_init T.d_WhileRow_init ["self", "atom", "rows"] (spInitWhileRowL T) := by
  refine T.F_WhileRow_init.ok sc_WhileRow_init (fun vs H Q E h => ?_) (fun cdv A outer s H vs Q E hr h => ?_)
  · obtain ⟨x, dx, v0, q1, us1, rfl, _⟩ := h
    rfl
  · obtain ⟨x, dx, v0, q1, us1, rfl, hx, hq1, q⟩ := h
    refine ⟨_, (pss_cons (ps_fld (pv 0) (pv 1) rfl)
      (pss_one (ps_fld (pv 0) (pe_callTy (tuple_ofK (K := K) rfl) (by rfl) T.n_tuple PyProof.Rows.boot_tuple (pa_cons (pv 2) pa_nil)) rfl))), ?_⟩
    have ccl := T.cl_WhileRow
    have na0 := T.na_WhileRow_atom
    have na1 := T.na_WhileRow_rows
    walk_at "sy"
    refine q _ (by walk_at "bt") ?_
    exact ⟨_, by walk_at "look", by walk_at "look"⟩
theorem use_WhileRowL {T : Tx K mg} {H : Hp} {Q : VK} {E : XK} {v0 : V} {q1 : Addr} {us1 : List V} (hq1 : H q1 = some (.lst us1)) (h : ∀ (x dx r1 : Addr) (H' : Hp), New x (.ins T.a_WhileRow dx (fsWhileRow v0 (.ref r1))) H H' → H' r1 = some (.tup us1) → Q (.ref x) H') : kMake T.a_WhileRow (spInitWhileRowL T) [] E [v0, .ref q1] H Q := by
  intro x dx hx hd hne
  refine ⟨x, dx, v0, q1, us1, rfl, upd_same, by rw [upd_ne (ne_of_none hq1 hx), upd_ne (ne_of_none hq1 hd)]; exact hq1, fun H' sb hx' => ?_⟩
  obtain ⟨r1, hx', g1⟩ := hx'
  exact ⟨rfl, h x dx r1 H' ⟨hx, hx', sb.made hx hd⟩ g1⟩
def spInitRecordL (T : Tx K mg) : Sp := fun vs H Q _ => ∃ (x dx : Addr) (v0 : V) (q1 : Addr) (us1 : List V), vs = [.ref x, v0, .ref q1] ∧ H x = some (.ins T.a_Record dx []) ∧ H q1 = some (.lst us1) ∧ ∀ H', SameBut x H H' → (∃ r1 : Addr, H' x = some (.ins T.a_Record dx (fsRecord v0 (.ref r1))) ∧ H' r1 = some (.tup us1)) → Q .non H'
theorem ok_Record_initL (T : Tx K mg) : FnOk P w K mg base CX0 1 T.f_Record_init T.d_Record_init ["self", "name", "fields"] (spInitRecordL T) := by
  refine T.F_Record_init.ok sc_Record_init (fun vs H Q E h => ?_) (fun cdv A outer s H vs Q E hr h => ?_)
  · obtain ⟨x, dx, v0, q1, us1, rfl, _⟩ := h
    rfl
  · obtain ⟨x, dx, v0, q1, us1, rfl, hx, hq1, q⟩ := h
    refine ⟨_, (pss_cons (ps_fld (pv 0) (pv 1) rfl)
      (pss_one (ps_fld (pv 0) (pe_callTy (tuple_ofK (K := K) rfl) (by rfl) T.n_tuple PyProof.Rows.boot_tuple (pa_cons (pv 2) pa_nil)) rfl))), ?_⟩
    have ccl := T.cl_Record
    have na0 := T.na_Record_name
    have na1 := T.na_Record_fields
    walk_at "sy"
    refine q _ (by walk_at "bt") ?_
    exact ⟨_, by walk_at "look", by walk_at "look"⟩
theorem use_RecordL {T : Tx K mg} {H : Hp} {Q : VK} {E : XK} {v0 : V} {q1 : Addr} {us1 : List V} (hq1 : H q1 = some (.lst us1)) (h : ∀ (x dx r1 : Addr) (H' : Hp), New x (.ins T.a_Record dx (fsRecord v0 (.ref r1))) H H' → H' r1 = some (.tup us1) → Q (.ref x) H') : kMake T.a_Record (spInitRecordL T) [] E [v0, .ref q1] H Q := by
  intro x dx hx hd hne
  refine ⟨x, dx, v0, q1, us1, rfl, upd_same, by rw [upd_ne (ne_of_none hq1 hx), upd_ne (ne_of_none hq1 hd)]; exact hq1, fun H' sb hx' => ?_⟩
  obtain ⟨r1, hx', g1⟩ := hx'
  exact ⟨rfl, h x dx r1 H' ⟨hx, hx', sb.made hx hd⟩ g1⟩
def spInitHelperL (T : Tx K mg) : Sp := fun vs H Q _ => ∃ (x dx : Addr) (v0 v2 : V) (q1 q3 : Addr) (us1 us3 : List V), vs = [.ref x, v0, .ref q1, v2, .ref q3] ∧ H x = some (.ins T.a_Helper dx []) ∧ H q1 = some (.lst us1) ∧ H q3 = some (.lst us3) ∧ ∀ H', SameBut x H H' → (∃ r1 r3 : Addr, H' x = some (.ins T.a_Helper dx (fsHelper v0 (.ref r1) v2 (.ref r3))) ∧ H' r1 = some (.tup us1) ∧ H' r3 = some (.tup us3)) → Q .non H'
theorem ok_Helper_initL (T : Tx K mg) : FnOk P w K mg base CX0 1 T.f_Helper_init T.d_Helper_init ["self", "name", "params", "gives", "rows"] (spInitHelperL T) := by
  refine T.F_Helper_init.ok sc_Helper_init (fun vs H Q E h => ?_) (fun cdv A outer s H vs Q E hr h => ?_)
  · obtain ⟨x, dx, v0, v2, q1, q3, us1, us3, rfl, _⟩ := h
    rfl
  · obtain ⟨x, dx, v0, v2, q1, q3, us1, us3, rfl, hx, hq1, hq3, q⟩ := h
    refine ⟨_, (pss_cons (ps_fld (pv 0) (pv 1) rfl)
      (pss_cons (ps_fld (pv 0) (pe_callTy (tuple_ofK (K := K) rfl) (by rfl) T.n_tuple PyProof.Rows.boot_tuple (pa_cons (pv 2) pa_nil)) rfl)
      (pss_cons (ps_fld (pv 0) (pv 3) rfl)
      (pss_one (ps_fld (pv 0) (pe_callTy (tuple_ofK (K := K) rfl) (by rfl) T.n_tuple PyProof.Rows.boot_tuple (pa_cons (pv 4) pa_nil)) rfl))))), ?_⟩
    have ccl := T.cl_Helper
    have na0 := T.na_Helper_name
    have na1 := T.na_Helper_params
    have na2 := T.na_Helper_gives
    have na3 := T.na_Helper_rows
    walk_at "sy"
    refine q _ (by walk_at "bt") ?_
    exact ⟨_, _, by walk_at "look", by walk_at "look", by walk_at "look"⟩
theorem use_HelperL {T : Tx K mg} {H : Hp} {Q : VK} {E : XK} {v0 v2 : V} {q1 q3 : Addr} {us1 us3 : List V} (hq1 : H q1 = some (.lst us1)) (hq3 : H q3 = some (.lst us3)) (h : ∀ (x dx r1 r3 : Addr) (H' : Hp), New x (.ins T.a_Helper dx (fsHelper v0 (.ref r1) v2 (.ref r3))) H H' → H' r1 = some (.tup us1) → H' r3 = some (.tup us3) → Q (.ref x) H') : kMake T.a_Helper (spInitHelperL T) [] E [v0, .ref q1, v2, .ref q3] H Q := by
  intro x dx hx hd hne
  refine ⟨x, dx, v0, v2, q1, q3, us1, us3, rfl, upd_same, by rw [upd_ne (ne_of_none hq1 hx), upd_ne (ne_of_none hq1 hd)]; exact hq1, by rw [upd_ne (ne_of_none hq3 hx), upd_ne (ne_of_none hq3 hd)]; exact hq3, fun H' sb hx' => ?_⟩
  obtain ⟨r1, r3, hx', g1, g3⟩ := hx'
  exact ⟨rfl, h x dx r1 r3 H' ⟨hx, hx', sb.made hx hd⟩ g1 g3⟩
def spInitProgramL (T : Tx K mg) : Sp := fun vs H Q _ => ∃ (x dx : Addr) (q0 q1 : Addr) (us0 us1 : List V), vs = [.ref x, .ref q0, .ref q1] ∧ H x = some (.ins T.a_Program dx []) ∧ H q0 = some (.lst us0) ∧ H q1 = some (.lst us1) ∧ ∀ H', SameBut x H H' → (∃ r0 r1 : Addr, H' x = some (.ins T.a_Program dx (fsProgram (.ref r0) (.ref r1))) ∧ H' r0 = some (.tup us0) ∧ H' r1 = some (.tup us1)) → Q .non H'
theorem ok_Program_initL (T : Tx K mg) : FnOk P w K mg base CX0 1 T.f_Program_init T.d_Program_init ["self", "records", "helpers"] (spInitProgramL T) := by
  refine T.F_Program_init.ok sc_Program_init (fun vs H Q E h => ?_) (fun cdv A outer s H vs Q E hr h => ?_)
  · obtain ⟨x, dx, q0, q1, us0, us1, rfl, _⟩ := h
    rfl
  · obtain ⟨x, dx, q0, q1, us0, us1, rfl, hx, hq0, hq1, q⟩ := h
    refine ⟨_, (pss_cons (ps_fld (pv 0) (pe_callTy (tuple_ofK (K := K) rfl) (by rfl) T.n_tuple PyProof.Rows.boot_tuple (pa_cons (pv 1) pa_nil)) rfl)
      (pss_one (ps_fld (pv 0) (pe_callTy (tuple_ofK (K := K) rfl) (by rfl) T.n_tuple PyProof.Rows.boot_tuple (pa_cons (pv 2) pa_nil)) rfl))), ?_⟩
    have ccl := T.cl_Program
    have na0 := T.na_Program_records
    have na1 := T.na_Program_helpers
    walk_at "sy"
    refine q _ (by walk_at "bt") ?_
    exact ⟨_, _, by walk_at "look", by walk_at "look", by walk_at "look"⟩
theorem use_ProgramL {T : Tx K mg} {H : Hp} {Q : VK} {E : XK} {q0 q1 : Addr} {us0 us1 : List V} (hq0 : H q0 = some (.lst us0)) (hq1 : H q1 = some (.lst us1)) (h : ∀ (x dx r0 r1 : Addr) (H' : Hp), New x (.ins T.a_Program dx (fsProgram (.ref r0) (.ref r1))) H H' → H' r0 = some (.tup us0) → H' r1 = some (.tup us1) → Q (.ref x) H') : kMake T.a_Program (spInitProgramL T) [] E [.ref q0, .ref q1] H Q := by
  intro x dx hx hd hne
  refine ⟨x, dx, q0, q1, us0, us1, rfl, upd_same, by rw [upd_ne (ne_of_none hq0 hx), upd_ne (ne_of_none hq0 hd)]; exact hq0, by rw [upd_ne (ne_of_none hq1 hx), upd_ne (ne_of_none hq1 hd)]; exact hq1, fun H' sb hx' => ?_⟩
  obtain ⟨r0, r1, hx', g0, g1⟩ := hx'
  exact ⟨rfl, h x dx r0 r1 H' ⟨hx, hx', sb.made hx hd⟩ g0 g1⟩
end
local macro_rules | `(tactic| walk_at "use") => `(tactic| (with_reducible refine use_IfRowL (by walk_at "look") (by walk_at "look") fun x dx r0 r1 H' n g0 g1 => ?_))
local macro_rules | `(tactic| walk_at "use") => `(tactic| (with_reducible refine use_WhileRowL (by walk_at "look") fun x dx r0 H' n g0 => ?_))
local macro_rules | `(tactic| walk_at "use") => `(tactic| (with_reducible refine use_RecordL (by walk_at "look") fun x dx r0 H' n g0 => ?_))
local macro_rules | `(tactic| walk_at "use") => `(tactic| (with_reducible refine use_HelperL (by walk_at "look") (by walk_at "look") fun x dx r0 r1 H' n g0 g1 => ?_))
local macro_rules | `(tactic| walk_at "use") => `(tactic| (with_reducible refine use_ProgramL (by walk_at "look") (by walk_at "look") fun x dx r0 r1 H' n g0 g1 => ?_))
/-! ### Head, Block, Reader made -/
section
variable {P : Program} {w : World} {K : PySem.W.Frag} {mg : Str → Option Value} {base : Heap}
abbrev fsHead (v0 v1 v2 : V) : List (Str × V) := putF "gives" v2 (putF "params" v1 (putF "name" v0 []))
def spInitHead (T : Tx K mg) : Sp := fun vs H Q _ => ∃ (x dx : Addr) (v0 v1 v2 : V), vs = [.ref x, v0, v1, v2] ∧ H x = some (.ins T.a_Head dx []) ∧ ∀ H', SameBut x H H' → H' x = some (.ins T.a_Head dx (fsHead v0 v1 v2)) → Q .non H'
theorem ok_Head_init (T : Tx K mg) : FnOk P w K mg base CX0 1 T.f_Head_init T.d_Head_init ["self", "name", "params", "gives"] (spInitHead T) := by
  refine T.F_Head_init.ok sc_Head_init (fun vs H Q E h => ?_) (fun cdv A outer s H vs Q E hr h => ?_)
  · obtain ⟨x, dx, v0, v1, v2, rfl, _⟩ := h
    rfl
  · obtain ⟨x, dx, v0, v1, v2, rfl, hx, q⟩ := h
    refine ⟨_, (pss_cons (ps_fld (pv 0) (pv 1) rfl)
      (pss_cons (ps_fld (pv 0) (pv 2) rfl)
      (pss_one (ps_fld (pv 0) (pv 3) rfl)))), ?_⟩
    have ccl := T.cl_Head
    have na0 := T.na_Head_name
    have na1 := T.na_Head_params
    have na2 := T.na_Head_gives
    walk_at "sy"
    exact q _ (by walk_at "bt") (by walk_at "look")
theorem use_Head {T : Tx K mg} {H : Hp} {Q : VK} {E : XK} {v0 v1 v2 : V} (h : ∀ (x dx : Addr) (H' : Hp), New x (.ins T.a_Head dx (fsHead v0 v1 v2)) H H' → Q (.ref x) H') : kMake T.a_Head (spInitHead T) [] E [v0, v1, v2] H Q := by
  intro x dx hx hd hne
  refine ⟨x, dx, v0, v1, v2, rfl, upd_same, fun H' sb hx' => ⟨rfl, h x dx H' ⟨hx, hx', sb.made hx hd⟩⟩⟩
abbrev fsBlock (v0 v1 v2 v3 v4 : V) : List (Str × V) := putF "beyond" v4 (putF "others" v3 (putF "rows" v2 (putF "atom" v1 (putF "word" v0 []))))
def spInitBlock (T : Tx K mg) : Sp := fun vs H Q _ => ∃ (x dx : Addr) (v0 v1 : V), vs = [.ref x, v0, v1] ∧ H x = some (.ins T.a_Block dx []) ∧ ∀ (H' : Hp) (r o : Addr), SameBut x H H' → H' x = some (.ins T.a_Block dx (fsBlock v0 v1 (.ref r) (.ref o) (.bl false))) → H' r = some (.lst []) → H' o = some (.lst []) → H r = none → H o = none → r ≠ o → Q .non H'
theorem freeBut {H Hx : Hp} {tp D : Addr} {o : HO} (b : SameBut tp H Hx) (ht : Hx tp = some o) (h : Hx D = none) : H D = none := by
  cases e : H D with
  | none => rfl
  | some u =>
    by_cases hz : D = tp
    · rw [hz, ht] at h
      cases h
    · rw [b _ _ e hz] at h
      cases h
theorem ok_Block_init (T : Tx K mg) : FnOk P w K mg base CX0 1 T.f_Block_init T.d_Block_init ["self", "word", "atom"] (spInitBlock T) := by
  refine T.F_Block_init.ok sc_Block_init (fun vs H Q E h => ?_) (fun cdv A outer s H vs Q E hr h => ?_)
  · obtain ⟨x, dx, v0, v1, rfl, _⟩ := h
    rfl
  · obtain ⟨x, dx, v0, v1, rfl, hx, q⟩ := h
    refine ⟨_, (pss_cons (ps_fld (pv 0) (pv 1) rfl)
      (pss_cons (ps_fld (pv 0) (pv 2) rfl)
      (pss_cons (ps_fld (pv 0) (pe_lst pa_nil) rfl)
      (pss_cons (ps_fld (pv 0) (pe_lst pa_nil) rfl)
      (pss_one (ps_fld (pv 0) pe_bl rfl)))))), ?_⟩
    have ccl := T.cl_Block
    have na0 := T.na_Block_word
    have na1 := T.na_Block_atom
    have na2 := T.na_Block_rows
    have na3 := T.na_Block_others
    have na4 := T.na_Block_beyond
    walk_at "sy"
    rename_i H1 c1 H2 c2 p3 H3 n3 H4 c4 p5 H5 n5 H6 c6 H7 c7
    have f3 : H p3 = none := freeBut (by walk_at "bt") c2.at_ n3.free
    have f5 : H p5 = none := freeBut (by walk_at "bt") c4.at_ n5.free
    have g3 : H4 p3 = some (.lst []) := by walk_at "look"
    exact q _ p3 p5 (by walk_at "bt") (by walk_at "look") (by walk_at "look") (by walk_at "look") f3 f5 (n5.ne g3).symm
theorem use_Block {T : Tx K mg} {H : Hp} {Q : VK} {E : XK} {v0 v1 : V} (h : ∀ (x dx r o : Addr) (H' : Hp), Own H H' [(x, .ins T.a_Block dx (fsBlock v0 v1 (.ref r) (.ref o) (.bl false))), (r, .lst []), (o, .lst [])] → Same H H' → Q (.ref x) H') : kMake T.a_Block (spInitBlock T) [] E [v0, v1] H Q := by
  intro x dx hx hd hne
  refine ⟨x, dx, v0, v1, rfl, upd_same, fun H' r o sb hx' hr ho fr fo ne => ⟨rfl, h x dx r o H' ⟨sb.made hx hd, ?_, ?_, ?_⟩ (sb.made hx hd)⟩⟩
  · intro e he
    simp only [List.mem_cons, List.not_mem_nil, or_false] at he
    rcases he with rfl | rfl | rfl
    · exact hx'
    · exact hr
    · exact ho
  · have n1 : x ≠ r := fun e => by rw [← e, upd_same] at fr; cases fr
    have n2 : x ≠ o := fun e => by rw [← e, upd_same] at fo; cases fo
    simp [keys, n1, n2, ne]
  · have sm : Same H (upd (upd H dx (.own x)) x (.ins T.a_Block dx [])) := same_made hx hd
    intro a ha
    simp only [keys, List.map_cons, List.map_nil, List.mem_cons, List.not_mem_nil, or_false] at ha
    rcases ha with rfl | rfl | rfl
    · exact hx
    · exact sm.free fr
    · exact sm.free fo
abbrev fsReader (v0 v1 v2 v3 v4 : V) : List (Str × V) := putF "points" v4 (putF "blocks" v3 (putF "begun" v2 (putF "helpers" v1 (putF "records" v0 []))))
def spInitReader (T : Tx K mg) : Sp := fun vs H Q _ => ∃ (x dx : Addr), vs = [.ref x] ∧ H x = some (.ins T.a_Reader dx []) ∧ ∀ (H' : Hp) (r h b : Addr), SameBut x H H' → H' x = some (.ins T.a_Reader dx (fsReader (.ref r) (.ref h) .non (.ref b) (.int 0))) → H' r = some (.lst []) → H' h = some (.lst []) → H' b = some (.lst []) → H r = none → H h = none → H b = none → r ≠ h → r ≠ b → h ≠ b → Q .non H'
theorem ok_Reader_init (T : Tx K mg) : FnOk P w K mg base CX0 1 T.f_Reader_init T.d_Reader_init ["self"] (spInitReader T) := by
  refine T.F_Reader_init.ok sc_Reader_init (fun vs H Q E h => ?_) (fun cdv A outer s H vs Q E hr h => ?_)
  · obtain ⟨x, dx, rfl, _⟩ := h
    rfl
  · obtain ⟨x, dx, rfl, hx, q⟩ := h
    refine ⟨_, (pss_cons (ps_fld (pv 0) (pe_lst pa_nil) rfl)
      (pss_cons (ps_fld (pv 0) (pe_lst pa_nil) rfl)
      (pss_cons (ps_fld (pv 0) pe_non rfl)
      (pss_cons (ps_fld (pv 0) (pe_lst pa_nil) rfl)
      (pss_one (ps_fld (pv 0) pe_int rfl)))))), ?_⟩
    have ccl := T.cl_Reader
    have na0 := T.na_Reader_records
    have na1 := T.na_Reader_helpers
    have na2 := T.na_Reader_begun
    have na3 := T.na_Reader_blocks
    have na4 := T.na_Reader_points
    walk_at "sy"
    rename_i p1 H1 n1 H2 c2 p3 H3 n3 H4 c4 H5 c5 p6 H6 n6 H7 c7 H8 c8
    have f1 : H p1 = none := n1.free
    have f3 : H p3 = none := freeBut (by walk_at "bt") c2.at_ n3.free
    have f6 : H p6 = none := freeBut (by walk_at "bt") c5.at_ n6.free
    have g1 : H2 p1 = some (.lst []) := by walk_at "look"
    have g1b : H5 p1 = some (.lst []) := by walk_at "look"
    have g3 : H5 p3 = some (.lst []) := by walk_at "look"
    exact q _ p1 p3 p6 (by walk_at "bt") (by walk_at "look") (by walk_at "look") (by walk_at "look") (by walk_at "look") f1 f3 f6 (n3.ne g1).symm (n6.ne g1b).symm (n6.ne g3).symm
theorem use_Reader {T : Tx K mg} {H : Hp} {Q : VK} {E : XK} (h : ∀ (x dx r h b : Addr) (H' : Hp), Own H H' [(x, .ins T.a_Reader dx (fsReader (.ref r) (.ref h) .non (.ref b) (.int 0))), (r, .lst []), (h, .lst []), (b, .lst [])] → Same H H' → Q (.ref x) H') : kMake T.a_Reader (spInitReader T) [] E [] H Q := by
  intro x dx hx hd hne
  refine ⟨x, dx, rfl, upd_same, fun H' r o b sb hx' hr ho hb fr fo fb ne1 ne2 ne3 => ⟨rfl, h x dx r o b H' ⟨sb.made hx hd, ?_, ?_, ?_⟩ (sb.made hx hd)⟩⟩
  · intro e he
    simp only [List.mem_cons, List.not_mem_nil, or_false] at he
    rcases he with rfl | rfl | rfl | rfl
    · exact hx'
    · exact hr
    · exact ho
    · exact hb
  · have n1 : x ≠ r := fun e => by rw [← e, upd_same] at fr; cases fr
    have n2 : x ≠ o := fun e => by rw [← e, upd_same] at fo; cases fo
    have n3 : x ≠ b := fun e => by rw [← e, upd_same] at fb; cases fb
    simp [keys, n1, n2, n3, ne1, ne2, ne3]
  · have sm : Same H (upd (upd H dx (.own x)) x (.ins T.a_Reader dx [])) := same_made hx hd
    intro a ha
    simp only [keys, List.map_cons, List.map_nil, List.mem_cons, List.not_mem_nil, or_false] at ha
    rcases ha with rfl | rfl | rfl | rfl
    · exact hx
    · exact sm.free fr
    · exact sm.free fo
    · exact sm.free fb
end
/-! ### a list's every second item -/
section
open PySem.Spec PyProof.Rows
def every2 {α : Type} : List α → List α
  | [] => []
  | [x] => [x]
  | x :: _ :: r => x :: every2 r
theorem every2_cons {α : Type} (x : α) (r : List α) : every2 (x :: r) = x :: every2 (r.drop 1) := by
  cases r <;> rfl
theorem every2_map {α β : Type} (f : α → β) : ∀ l : List α, every2 (l.map f) = (every2 l).map f
  | [] => rfl
  | [_] => rfl
  | _ :: _ :: r => by
    show f _ :: every2 (r.map f) = f _ :: (every2 r).map f
    rw [every2_map f r]
theorem every2_mem {α : Type} {x : α} : ∀ {l : List α}, x ∈ every2 l → x ∈ l
  | [], h => h
  | [_], h => h
  | a :: b :: r, h => by
    rcases List.mem_cons.mp (show x ∈ a :: every2 r from h) with rfl | h
    · exact List.mem_cons_self ..
    · exact List.mem_cons_of_mem _ (List.mem_cons_of_mem _ (every2_mem h))
theorem every2_len {α : Type} : ∀ l : List α, (every2 l).length ≤ l.length
  | [] => Nat.le_refl _
  | [_] => Nat.le_refl _
  | a :: b :: r => by
    have := every2_len r
    show (a :: every2 r).length ≤ (a :: b :: r).length
    simp only [List.length_cons]
    omega
theorem pick2 (its : List Value) : ∀ (c a : Nat), c = (its.length - a + 1) / 2 → (((List.range c).map fun k => a + 2 * k).filterMap fun i => its[i]?) = every2 (its.drop a)
  | 0, a, h => by
    have : its.length ≤ a := by omega
    rw [List.drop_eq_nil_of_le this]
    rfl
  | c + 1, a, h => by
    have ha : a < its.length := by omega
    have ih := pick2 its c (a + 2) (by omega)
    have e : (its.drop a) = its[a] :: its.drop (a + 1) := List.drop_eq_getElem_cons ha
    rw [e, every2_cons, List.drop_drop, List.range_succ_eq_map, List.map_cons, List.map_map]
    rw [List.filterMap_cons]
    have e0 : its[a + 2 * 0]? = some its[a] := by simp
    rw [e0]
    show its[a] :: _ = _
    congr 1
    rw [show a + 1 + 1 = a + 2 from rfl, ← ih]
    congr 1
    apply List.map_congr_left
    intro k _
    show a + 2 * (k + 1) = a + 2 + 2 * k
    omega
theorem slicePick_2 (its : List Value) (lo : Option Int) : slicePick its.toArray lo none (some 2) = (every2 (its.drop (HT.sIx its.length 0 lo))).toArray := by
  have h1 : (sliceBounds lo none (some 2) its.toArray.size).1 = ((HT.sIx its.length 0 lo : Nat) : Int) := by
    rw [List.size_toArray]
    cases lo with
    | none => simp [sliceBounds, HT.sIx]
    | some i =>
      simp only [sliceBounds, HT.sIx, Option.getD_some, show (2 : Int) > 0 by decide, if_true]
      by_cases h : i < 0
      · simp only [h, if_true] <;> omega
      · simp only [h, if_false] <;> omega
  have h2 : (sliceBounds lo none (some 2) its.toArray.size).2.1 = ((its.length : Nat) : Int) := by
    rw [List.size_toArray]
    simp [sliceBounds]
  have h3 : (sliceBounds lo none (some 2) its.toArray.size).2.2 = 2 := rfl
  unfold slicePick
  rw [h1, h2, h3]
  generalize ha : HT.sIx its.length 0 lo = a
  have e : sliceRange (a : Int) (its.length : Int) 2 = (List.range ((its.length - a + 1) / 2)).map fun k => a + 2 * k := by
    unfold sliceRange
    simp only [show (2 : Int) > 0 by decide, if_true]
    have ec : (if (a : Int) < (its.length : Int) then ((its.length : Int) - a + 2 - 1) / 2 else 0).toNat = (its.length - a + 1) / 2 := by
      by_cases h : (a : Int) < its.length
      · rw [if_pos h]
        omega
      · rw [if_neg h]
        omega
    rw [ec]
    apply List.map_congr_left
    intro k _
    omega
  rw [e]
  congr 1
  rw [← pick2 its _ a rfl]
  congr 1
  funext i
  simp
/-- xs[lo::2] -/
def rSl2 (K : PySem.W.Frag) : V → Option Int → Hp → VK → Prop := fun x lo H Q => ∃ a xs, x = .ref a ∧ SqL K H a xs ∧ ∀ p, H p = none → Q (.ref p) (upd H p (.lst (every2 (xs.drop (HT.sIx xs.length 0 lo)))))
def tSl2 (K : PySem.W.Frag) (te : TE) (tl : TO) : TE := fun σ H Q => te σ H fun x H1 => tl σ H1 fun l H2 => rSl2 K x l H2 Q
theorem vals_every2 : ∀ {xs : List V} {us : List Value}, Vals xs us → Vals (every2 xs) (every2 us)
  | [], [], .nil => .nil
  | [_], [_], .cons r .nil => .cons r .nil
  | _ :: _ :: _, _ :: _ :: _, .cons r (.cons _ h) => .cons r (vals_every2 h)
theorem pe_slice2 {X : Cx} {K : PySem.W.Frag} {e st : Expr} {lo : Option Expr} {te : TE} {tl : TO} {p2 pos : Pos} (hK : X.K = K) (he : PE X e te) (hl : PO X lo tl) (hs : PO X (some st) (tPart (tC (.int 2)))) :
    PE X (.Subscript e (.Slice lo none (some st) p2) pos) (tSl2 K te tl) := by
  subst hK
  refine ⟨fun pins s σ H Q I h => ?_⟩
  refine Subscript_ (thn (he.run pins s σ H _ I h) fun v s1 ⟨x, H1, I1, r1, q1⟩ => ?_)
  refine wpAny_Slice (thn (hl.run pins s1 σ H1 _ I1 q1) fun vl s2 ⟨l, H2, I2, pl, q2⟩ => ?_)
  rw [evalPart_none]
  refine wpAny_pure (thn (hs.run pins s2 σ H2 (fun o H' => o = some 2 ∧ H' = H2) I2 ⟨2, rfl, rfl, rfl⟩) fun vst s3 ⟨o, H3, I3, pst, e1, e2⟩ => ?_)
  subst e1 e2
  obtain ⟨a, xs, rfl, hx, q⟩ := q2
  cases r1
  have I4 : Inv X pins σ H3 { s3 with heap := s3.heap.push { cls := .type "slice", data := .fields #[vl, .none, vst] } } := I3.kept (t' := s3.toks) fun b ob q => Heap.get?_push_of_some _ q
  obtain ⟨its, r, ht, hz⟩ := I4.list hx
  have hlen := r.length
  show wpAny (model X.prog X.w) X.A (subscriptTail e (.Slice lo none (some st) p2) (.ref a) (.ref s3.heap.objs.size)) (EP X pins σ Q) X.xe { s3 with heap := s3.heap.push { cls := .type "slice", data := .fields #[vl, .none, vst] } }
  refine tail_any (ops := [.ref a, .ref s3.heap.objs.size]) ht.isList.typeIs slot_list_getitem.lookup ?_ (by with_unfolding_all rfl)
  refine wpAny_getItem_list_slice ht.isList (Heap.IsSliceOf.new ..) pl .none pst (by decide) ?_ (by rw [List.size_toArray] <;> omega)
  rw [slicePick_2, ← hlen]
  refine ⟨.ref _, _, I4.laid (t' := s3.toks) (o := .lst (every2 (xs.drop (HT.sIx xs.length 0 l)))) (fun b ob q => Heap.get?_push_of_some _ q) (Nat.le_refl _) ?_, rfl, q _ (I4.hok.fresh (Nat.le_refl _))⟩
  have hl2 := every2_len (xs.drop (HT.sIx xs.length 0 l))
  rw [List.length_drop] at hl2
  exact ⟨by omega, _, 0, vals_every2 (r.drop (HT.sIx xs.length 0 l)), Heap.get?_push_size _ rfl⟩
end
theorem w_sl2 {K : PySem.W.Frag} {σ : St} {H : Hp} {Q : VK} {te : TE} {tl : TO} (h : te σ H fun x H1 => tl σ H1 fun l H2 => rSl2 K x l H2 Q) : tSl2 K te tl σ H Q := h
theorem w_slE {K : PySem.W.Frag} {H : Hp} {Q : VK} {a : Addr} {xs : List V} {lo : Option Int} (i : H a = some (.lst xs)) (h : ∀ p H', New p (.lst (every2 (xs.drop (HT.sIx xs.length 0 lo)))) H H' → Q (.ref p) H') : rSl2 K (.ref a) lo H Q := ⟨a, xs, rfl, SqL.of i, fun p hp => h p _ (New.mk' hp)⟩
/-! ### range(0, n, 2) -/
theorem rgC2 {n : Nat} (h : n ≤ 1000) : RgC 0 (n : Int) 2 ((n + 1) / 2) := by
  have e : Builtin.Range.rangeSize 0 (n : Int) 2 = (((n + 1) / 2 : Nat) : Int) := by
    unfold Builtin.Range.rangeSize
    simp only [show (2 : Int) > 0 by decide, if_true]
    split <;> omega
  refine ⟨by decide, by decide, ?_, e⟩
  have f : ∀ i : Int, -1000000 ≤ i → i < 1000000 → Builtin.Range.rangeFitsLong i = true := fun i h1 h2 => by
    unfold Builtin.Range.rangeFitsLong
    rw [Bool.and_eq_true]
    exact ⟨decide_eq_true (by omega), decide_eq_true (by omega)⟩
  unfold Builtin.Range.small
  rw [e, f 0 (by omega) (by omega), f (n : Int) (by omega) (by omega), f 2 (by omega) (by omega), f (((n + 1) / 2 : Nat) : Int) (by omega) (by omega), if_pos (by decide : (2 : Int) > 0), f ((n : Int) + (2 - 1)) (by omega) (by omega)]
  simp
theorem w_rng3 {ta : TA} {σ : St} {H : Hp} {R : It → Hp → Prop} (h : ta σ H fun vs H1 => ∃ (i j c : Int) (n : Nat), vs = [.int i, .int j, .int c] ∧ RgC i j c n ∧ R (Itc i c n) H1) : iRng3 ta σ H R := h
theorem w_rng3a {n : Nat} {P : Int → Int → Nat → Prop} (hn : n ≤ 1000) (h : P 0 2 ((n + 1) / 2)) : ∃ (i j c : Int) (k : Nat), [V.int 0, V.int (n : Int), V.int 2] = [.int i, .int j, .int c] ∧ RgC i j c k ∧ P i c k := ⟨0, n, 2, _, rfl, rgC2 hn, h⟩
theorem k_lcC {lo c : Int} {n : Nat} {g : TG} {tt : TT} {te : TE} {vs : List Nat} {σ : St} {H : Hp} {Q : VK} (Pv : Addr → Nat → Hp → Prop) (h0 : ∀ D H', New D (.lst []) H H' → Pv D 0 H')
    (hs : ∀ D, H D = none → ∀ i H2, i < n → Pv D i H2 → kTurn g tt te vs σ D (.int (lo + (i : Nat) * c)) H2 (Pv D (i + 1))) (hd : ∀ D, H D = none → ∀ H2, Pv D n H2 → Q (.ref D) H2) : kLc (Itc lo c n) g tt te vs σ H Q :=
  fun D hD => lc_it walk_rangeC (Pv D) (h0 D _ (New.mk' hD)) (fun _ _ _ _ => trivial) (fun i x H2 H' hi p y => by
    obtain ⟨rfl, rfl⟩ := y
    exact hs D hD i _ hi p) (hd D hD)
/-! ### lists: == [], pop, enumerate; fields counted on -/
section
open PySem.Spec PyProof.Rows
/-- xs == [], whatever xs holds -/
def rEqNil : R2 := fun x y H Q => ∃ a b xs, x = .ref a ∧ y = .ref b ∧ H a = some (.lst xs) ∧ H b = some (.lst []) ∧ Q (.bl xs.isEmpty) H
def rNeNil : R2 := fun x y H Q => ∃ a b xs, x = .ref a ∧ y = .ref b ∧ H a = some (.lst xs) ∧ H b = some (.lst []) ∧ Q (.bl (!xs.isEmpty)) H
theorem op_eqNil {X : Cx} (hu : X.A.units + 64 < cLine) : OpR X (compareOp .Eq) rEqNil := by
  intro pins s σ H x y v u Q I rx ry h
  obtain ⟨a, b, xs, rfl, rfl, ha, hb, q⟩ := h
  cases rx
  cases ry
  obtain ⟨z, its, n, r, hl, e⟩ := I.lstM ha
  obtain ⟨z2, its2, n2, r2, hl2, e2⟩ := I.lstM hb
  cases r2
  have i1 : s.heap.IsList a its.toArray := ⟨_, e, rfl, n, rfl⟩
  have i2 : s.heap.IsList b ([] : List Value).toArray := ⟨_, e2, rfl, n2, rfl⟩
  have fin : ∀ c : Bool, c = xs.isEmpty → EP X pins σ Q (.bool c) s := fun c hc => ⟨.bl xs.isEmpty, H, I, by subst hc; rfl, q⟩
  cases r with
  | nil => exact SeqAt.eq_listAt (e := fun _ => true) i1 i2 rfl (by omega) (fun j h1 => by simp at h1) (fin _ (by simp))
  | cons r1 r2 => exact SeqAt.eq_list_lengthsAt i1 i2 (by simp) (by omega) (fin _ rfl)
theorem op_neNil {X : Cx} (hu : X.A.units + 64 < cLine) : OpR X (compareOp .NotEq) rNeNil := by
  intro pins s σ H x y v u Q I rx ry h
  obtain ⟨a, b, xs, rfl, rfl, ha, hb, q⟩ := h
  cases rx
  cases ry
  obtain ⟨z, its, n, r, hl, e⟩ := I.lstM ha
  obtain ⟨z2, its2, n2, r2, hl2, e2⟩ := I.lstM hb
  cases r2
  have i1 : s.heap.IsList a its.toArray := ⟨_, e, rfl, n, rfl⟩
  have i2 : s.heap.IsList b ([] : List Value).toArray := ⟨_, e2, rfl, n2, rfl⟩
  have fin : ∀ c : Bool, c = (!xs.isEmpty) → EP X pins σ Q (.bool c) s := fun c hc => ⟨.bl (!xs.isEmpty), H, I, by subst hc; rfl, q⟩
  cases r with
  | nil => exact SeqAt.RcNeAt.lists (e := fun _ => true) i1 i2 rfl (by omega) (fun j h1 => by simp at h1) _ _ _ _ (fin _ (by simp))
  | cons r1 r2 => exact SeqAt.RcNeAt.lists_lengths i1 i2 (by simp) (by omega) _ _ _ _ (fin _ rfl)
end
section
variable {K : PySem.W.Frag} {σ σ' : St} {H : Hp} {Q : VK}
def kAug2 (a C : Addr) (f : Str) (z : V) (H : Hp) (P : Hp → Prop) : Prop := ∃ dx' fs', H a = some (.ins C dx' fs') ∧ fs'.length < 1000 ∧ P (upd H a (.ins C dx' (putF f z fs')))
theorem w_fldaug {ta tv : TE} {rd : R2} {f : Str} {D : Ends} (h : ta σ H fun x H1 => ∃ a C dx fs v, x = .ref a ∧ H1 a = some (.ins C dx fs) ∧ Cls K C ∧ NoAttr K C f ∧ fs.lookup f = some v ∧
  tv σ H1 fun y H2 => rd v y H2 fun z H3 => kAug2 a C f z H3 (fun H4 => D.nx σ H4)) : sFldAug K ta tv rd f D σ H := h
theorem w_fldaug1 {a C dx : Addr} {fs : List (Str × V)} {v : V} {f : Str} {B : Addr → Addr → V → Prop} (i : H a = some (.ins C dx fs)) (c : Cls K C) (n : NoAttr K C f) (l : fs.lookup f = some v) (h : B a C v) : ∃ a' C' dx' fs' v', V.ref a = .ref a' ∧ H a' = some (.ins C' dx' fs') ∧ Cls K C' ∧ NoAttr K C' f ∧ fs'.lookup f = some v' ∧ B a' C' v' := ⟨a, C, dx, fs, v, rfl, i, c, n, l, h⟩
theorem w_fldaug2 {a C dx : Addr} {fs : List (Str × V)} {z : V} {f : Str} {P : Hp → Prop} (i : H a = some (.ins C dx fs)) (l : fs.length < 1000) (h : ∀ H', Chg a (.ins C dx fs) (.ins C dx (putF f z fs)) H H' → P H') : kAug2 a C f z H P := ⟨dx, fs, i, l, h _ (Chg.mk' i)⟩
theorem w_ipI {f : Int → Int → Int} {i j : Int} (h : Q (.int (f i j)) H) : ipI f (.int i) (.int j) H Q := ⟨i, j, rfl, rfl, h⟩
theorem w_radd {i j : Int} (h : Q (.int (i + j)) H) : rAdd (.int i) (.int j) H Q := ⟨i, j, rfl, rfl, h⟩
theorem w_rsub {i j : Int} (h : Q (.int (i - j)) H) : rSub (.int i) (.int j) H Q := ⟨i, j, rfl, rfl, h⟩
theorem w_eqNil {a b : Addr} {xs : List V} (h1 : H a = some (.lst xs)) (h2 : H b = some (.lst [])) (h : Q (.bl xs.isEmpty) H) : rEqNil (.ref a) (.ref b) H Q := ⟨a, b, xs, rfl, rfl, h1, h2, h⟩
theorem w_neNil {a b : Addr} {xs : List V} (h1 : H a = some (.lst xs)) (h2 : H b = some (.lst [])) (h : Q (.bl (!xs.isEmpty)) H) : rNeNil (.ref a) (.ref b) H Q := ⟨a, b, xs, rfl, rfl, h1, h2, h⟩
theorem w_pop {l : Addr} {xs : List V} {y : V} (a : H l = some (.lst xs)) (e : xs[xs.length - 1]? = some y) (h : ∀ H', Chg l (.lst xs) (.lst xs.dropLast) H H' → Q y H') : rPop (.ref l) [] H Q := ⟨l, xs, y, rfl, rfl, a, e, h _ (Chg.mk' a)⟩
theorem w_iEnum {ta : TA} {R : It → Hp → Prop} (h : ta σ H fun vs H1 => ∃ a xs, vs = [.ref a] ∧ SqL K H1 a xs ∧ R (Ite K a) H1) : iEnum K ta σ H R := h
theorem w_iEnum1 {p : Addr} {xs : List V} {R : Addr → Prop} (a : H p = some (.lst xs)) (h : R p) : ∃ a' ys, [V.ref p] = [.ref a'] ∧ SqL K H a' ys ∧ R a' := ⟨p, xs, rfl, SqL.of a, h⟩
end
section
variable {K : PySem.W.Frag} {a : Addr} {xs : List V} {g : TG} {tb : TS} {D : Ends} {σ : St} {H : Hp}
theorem k_forE (xs : List V) (Pv : Nat → St → Hp → Prop) (h0 : Pv 0 σ H) (hl : ∀ i σ H, i ≤ xs.length → Pv i σ H → SqL K H a xs)
    (hs : ∀ i x σ H H1 T, xs[i]? = some x → Pv i σ H → New T (.tup [.int (i : Nat), x]) H H1 → g (.ref T) σ H1 fun σ2 H2 => tb { D with nx := Pv (i + 1), ct := Pv (i + 1), bk := D.nx } σ2 H2) (hd : ∀ σ H, Pv xs.length σ H → D.nx σ H) : kFor (Ite K a) g tb D σ H := by
  refine ⟨fun i m σ H => m = xs.length - i ∧ i ≤ xs.length ∧ Pv i σ H, ⟨_, rfl, Nat.zero_le _, h0⟩, ?_⟩
  rintro i m σ H ⟨rfl, hi, p⟩
  have q := hl i σ H hi p
  by_cases hlt : i < xs.length
  · refine .inr ⟨⟨xs, xs[i], q, by simp [hlt]⟩, Pv (i + 1), fun σ' H' p' => ⟨xs.length - (i + 1), by omega, rfl, hlt, p'⟩, fun v H' y => ?_⟩
    obtain ⟨T, x, rfl, hT, rfl, hx⟩ := y
    exact hs i x σ H _ T (hx _ q) p (New.mk' hT)
  · have e : i = xs.length := by omega
    subst e
    exact .inl ⟨⟨xs, q, Nat.le_refl _⟩, hd σ H p⟩
end
/-! ### what stays though readers and blocks change -/
def mutF (fs : List (Str × V)) : Bool := (fs.lookup (Str.ofString "beyond")).isSome || (fs.lookup (Str.ofString "blocks")).isSome
def immO : HO → Bool
  | .ins _ _ fs => !mutF fs
  | _ => true
def imm (H : Hp) : Hp := fun a => match H a with
  | some o => if immO o = true then some o else none
  | none => none
theorem imm_iff {H : Hp} {a : Addr} {o : HO} : imm H a = some o ↔ H a = some o ∧ immO o = true := by
  unfold imm
  cases h : H a with
  | none => simp
  | some u =>
    by_cases hu : immO u = true
    · simp only [hu, if_true, Option.some.injEq]
      constructor
      · rintro rfl
        exact ⟨rfl, hu⟩
      · exact fun z => z.1
    · simp only [hu, if_false]
      constructor
      · intro z
        cases z
      · rintro ⟨z, w⟩
        cases z
        exact absurd w hu
theorem imm_le {H : Hp} {a : Addr} {o : HO} (h : imm H a = some o) : H a = some o := (imm_iff.mp h).1
theorem imm_ins {H : Hp} {a C dx : Addr} {fs : List (Str × V)} (h : H a = some (.ins C dx fs)) (m : mutF fs = false) : imm H a = some (.ins C dx fs) := imm_iff.mpr ⟨h, by show (!mutF fs) = true; rw [m]; rfl⟩
theorem imm_tup {H : Hp} {a : Addr} {xs : List V} (h : H a = some (.tup xs)) : imm H a = some (.tup xs) := imm_iff.mpr ⟨h, rfl⟩
abbrev KI (H H' : Hp) : Prop := Keep (imm H) (imm H')
theorem KI.same {H H' : Hp} (s : Same H H') : KI H H' := fun _ _ e _ => imm_iff.mpr ⟨s _ _ (imm_iff.mp e).1, (imm_iff.mp e).2⟩
def moves : HO → Prop
  | .lst _ => True
  | .ins _ _ fs => mutF fs = true
  | _ => False
theorem moves_not {o : HO} (h : moves o) : ¬ (immO o = true ∧ still o) := by
  cases o with
  | lst xs => exact fun z => z.2
  | ins C dx fs =>
    intro z
    have h : mutF fs = true := h
    have z1 : (!mutF fs) = true := z.1
    rw [h] at z1
    cases z1
  | _ => exact fun _ => h
theorem KI.but {H H' : Hp} {q : Addr} {a : HO} (s : SameBut q H H') (hq : H q = some a) (h : moves a) : KI H H' := fun x o e st => by
  obtain ⟨e1, e2⟩ := imm_iff.mp e
  refine imm_iff.mpr ⟨s _ _ e1 fun z => ?_, e2⟩
  subst z
  rw [hq] at e1
  cases e1
  exact moves_not h ⟨e2, st⟩
theorem KI.chg {H H' : Hp} {q : Addr} {a b : HO} (c : Chg q a b H H') (h : moves a) : KI H H' := KI.but c.but c.was h
theorem KI.back (H : Hp) : Keep (imm H) H := fun _ _ e _ => imm_le e
theorem KI.trans {H H1 H2 : Hp} (a : KI H H1) (b : KI H1 H2) : KI H H2 := Keep.trans a b
mutual
theorem IsD.imm {H : Hp} : ∀ {d : Dt} {v : V}, IsD H d v → IsD (imm H) d v
  | .non, _, h => h
  | .int _, _, h => h
  | .str _, _, h => h
  | .tup _, _, ⟨p, vs, e, h, g⟩ => ⟨p, vs, e, imm_tup h, IsDs.imm g⟩
theorem IsDs.imm {H : Hp} : ∀ {ds : List Dt} {vs : List V}, IsDs H ds vs → IsDs (imm H) ds vs
  | [], _, h => h
  | _ :: _, _, ⟨v, r, e, h, g⟩ => ⟨v, r, e, IsD.imm h, IsDs.imm g⟩
end
section
variable {P : Program} {w : World} {K : PySem.W.Frag} {mg : Str → Option Value} {base : Heap}
theorem RowAt.imm {T : Tx K mg} {H : Hp} : ∀ {r : Rw} {v : V}, RowAt T H r v → RowAt T (imm H) r v
  | .set _ _ _ _, _, ⟨p, dx, v0, v1, v2, v3, e, h, h0, h1, h2, h3⟩ => ⟨p, dx, v0, v1, v2, v3, e, imm_ins h (by rfl), h0.imm, h1.imm, h2.imm, h3.imm⟩
  | .make _ _ _, _, ⟨p, dx, v0, v1, v2, e, h, h0, h1, h2⟩ => ⟨p, dx, v0, v1, v2, e, imm_ins h (by rfl), h0.imm, h1.imm, h2.imm⟩
  | .non _ _, _, ⟨p, dx, v0, v1, e, h, h0, h1⟩ => ⟨p, dx, v0, v1, e, imm_ins h (by rfl), h0.imm, h1.imm⟩
  | .give _ _, _, ⟨p, dx, v0, v1, e, h, h0, h1⟩ => ⟨p, dx, v0, v1, e, imm_ins h (by rfl), h0.imm, h1.imm⟩
  | .take _ _, _, ⟨p, dx, v0, v1, e, h, h0, h1⟩ => ⟨p, dx, v0, v1, e, imm_ins h (by rfl), h0.imm, h1.imm⟩
  | .fill _ _, _, ⟨p, dx, v0, v1, e, h, h0, h1⟩ => ⟨p, dx, v0, v1, e, imm_ins h (by rfl), h0.imm, h1.imm⟩
  | .swap _ _, _, ⟨p, dx, v0, v1, e, h, h0, h1⟩ => ⟨p, dx, v0, v1, e, imm_ins h (by rfl), h0.imm, h1.imm⟩
  | .get _ _, _, ⟨p, dx, v0, v1, e, h, h0, h1⟩ => ⟨p, dx, v0, v1, e, imm_ins h (by rfl), h0.imm, h1.imm⟩
  | .put _ _, _, ⟨p, dx, v0, v1, e, h, h0, h1⟩ => ⟨p, dx, v0, v1, e, imm_ins h (by rfl), h0.imm, h1.imm⟩
  | .has _ _, _, ⟨p, dx, v0, v1, e, h, h0, h1⟩ => ⟨p, dx, v0, v1, e, imm_ins h (by rfl), h0.imm, h1.imm⟩
  | .drop _, _, ⟨p, dx, v0, e, h, h0⟩ => ⟨p, dx, v0, e, imm_ins h (by rfl), h0.imm⟩
  | .lend _ _ _, _, ⟨p, dx, v0, v1, v2, e, h, h0, h1, h2⟩ => ⟨p, dx, v0, v1, v2, e, imm_ins h (by rfl), h0.imm, h1.imm, h2.imm⟩
  | .step _ _, _, ⟨p, dx, v0, v1, e, h, h0, h1⟩ => ⟨p, dx, v0, v1, e, imm_ins h (by rfl), h0.imm, h1.imm⟩
  | .call _ _ _, _, ⟨p, dx, v0, v1, v2, e, h, h0, h1, h2⟩ => ⟨p, dx, v0, v1, v2, e, imm_ins h (by rfl), h0.imm, h1.imm, h2.imm⟩
  | .back _, _, ⟨p, dx, v0, e, h, h0⟩ => ⟨p, dx, v0, e, imm_ins h (by rfl), h0.imm⟩
  | .ask _, _, ⟨p, dx, v0, e, h, h0⟩ => ⟨p, dx, v0, e, imm_ins h (by rfl), h0.imm⟩
  | .tell _, _, ⟨p, dx, v0, e, h, h0⟩ => ⟨p, dx, v0, e, imm_ins h (by rfl), h0.imm⟩
end
/-! ### a list within a tuple of lists -/
section
open PySem.Spec PyProof.Rows
def rInT (K : PySem.W.Frag) : R2 := fun x y H Q => ∃ d ds, Dp K H x d ∧ Dp K H y (.tuple ds) ∧ SeqAt.shaped d = true ∧ SeqAt.shaped (.tuple ds) = true ∧ Q (.bl (ds.any fun z => PyData.eqv z d)) H
theorem op_inT {X : Cx} (hu : X.A.units + 65 < cLine) : OpR X (compareOp .In) (rInT X.K) := by
  intro pins s σ H x y v u Q I rx ry h
  obtain ⟨d, ds, hd, he, sd, se, q⟩ := h
  obtain ⟨as, r1⟩ := Dp.reads I d x v hd rx
  obtain ⟨bs, r2⟩ := Dp.reads I (.tuple ds) y u he ry
  exact SeqAt.in_tuple_reads r2 r1 (SeqAt.canLay_of_shaped se) (SeqAt.canLay_of_shaped sd) (room_in_shaped sd hu) ⟨.bl _, H, I, rfl, q⟩
end
def strL (ws : List Str) : Prop := ∀ w ∈ ws, PyData.strOk w = true
theorem strL_lay : ∀ {ws : List Str}, strL ws → PyData.canLayAll0 (ws.map PyData.str) = true ∧ PyData.depthAll (ws.map PyData.str) = 0
  | [], _ => by simp [PyData.canLayAll0, PyData.depthAll]
  | s :: p, h => by
    have ih := strL_lay (ws := p) fun t ht => h t (List.mem_cons_of_mem _ ht)
    have h2 := h s (List.mem_cons_self ..)
    simp only [List.map_cons, PyData.canLayAll0, PyData.depthAll, PyData.canLay0, PyData.depth, h2, Bool.true_and]
    exact ⟨ih.1, by omega⟩
theorem strL_shaped {ws : List Str} (h : strL ws) : SeqAt.shaped (.list (ws.map PyData.str)) = true := by
  have h1 := strL_lay h
  refine shapedOf (by simp only [PyData.canLay0]; exact h1.1) ?_
  simp only [PyData.depth]
  omega
theorem strs_dpL {K : PySem.W.Frag} {H : Hp} : ∀ ws : List Str, DpAll K H (ws.map V.str) (ws.map PyData.str)
  | [] => .nil
  | s :: p => .cons (.str _) (strs_dpL p)
theorem eqvAllStrs : ∀ us ws : List Str, PyData.eqvAll (us.map PyData.str) (ws.map PyData.str) = decide (us = ws)
  | [], [] => by simp [PyData.eqvAll]
  | [], m :: ms => by simp [PyData.eqvAll]
  | n :: ns, [] => by simp [PyData.eqvAll]
  | n :: ns, m :: ms => by
    have e := eqvAllStrs ns ms
    simp only [List.map_cons, PyData.eqvAll, PyData.eqv, e]
    by_cases h : n = m <;> by_cases h2 : ns = ms <;> simp [h, h2]
theorem eqvStrs (us ws : List Str) : PyData.eqv (.list (us.map PyData.str)) (.list (ws.map PyData.str)) = decide (us = ws) := by
  rw [PyData.eqv]
  exact eqvAllStrs us ws
theorem w_eqSs {K : PySem.W.Frag} {H : Hp} {Q : VK} {a b : Addr} {us ws : List Str} (ha : H a = some (.lst (us.map V.str))) (hb : H b = some (.lst (ws.map V.str))) (h1 : strL us) (h2 : strL ws) (h : Q (.bl (decide (us = ws))) H) : rEqD K (.ref a) (.ref b) H Q :=
  ⟨.list (us.map PyData.str), .list (ws.map PyData.str), .lst (SqL.of ha) (strs_dpL us), .lst (SqL.of hb) (strs_dpL ws), strL_shaped h1, strL_shaped h2, by rw [eqvStrs]; exact h⟩
theorem strL_kw : ∀ k ∈ keptL, strL [k] := by
  have h : ∀ k ∈ keptL, PyData.strOk k = true := by decide +kernel
  exact fun k hk w hw => by rw [List.mem_singleton.mp hw]; exact h k hk
theorem w_inSs {K : PySem.W.Frag} {H : Hp} {Q : VK} {a t b c : Addr} {ws us vs : List Str} (ha : H a = some (.lst (ws.map V.str))) (ht : H t = some (.tup [.ref b, .ref c])) (hb : H b = some (.lst (us.map V.str))) (hc : H c = some (.lst (vs.map V.str)))
    (h0 : strL ws) (h1 : strL us) (h2 : strL vs) (h : Q (.bl (decide (ws = us ∨ ws = vs))) H) : rInT K (.ref a) (.ref t) H Q := by
  refine ⟨.list (ws.map PyData.str), [.list (us.map PyData.str), .list (vs.map PyData.str)], .lst (SqL.of ha) (strs_dpL ws), .tup (SqT.of ht) (.cons (.lst (SqL.of hb) (strs_dpL us)) (.cons (.lst (SqL.of hc) (strs_dpL vs)) .nil)), strL_shaped h0, ?_, ?_⟩
  · have k1 := strL_lay h1
    have k2 := strL_lay h2
    refine shapedOf ?_ ?_
    · rw [PyData.canLay0, PyData.canLayAll0, PyData.canLayAll0, PyData.canLayAll0, PyData.canLay0, PyData.canLay0, k1.1, k2.1]
      rfl
    · rw [PyData.depth, PyData.depthAll, PyData.depthAll, PyData.depthAll, PyData.depth, PyData.depth, k1.2, k2.2]
      decide
  · have e : ([PyData.list (us.map PyData.str), .list (vs.map PyData.str)].any fun z => PyData.eqv z (.list (ws.map PyData.str))) = decide (ws = us ∨ ws = vs) := by
      simp only [List.any_cons, List.any_nil, eqvStrs, Bool.or_false]
      rw [Bool.eq_iff_iff]
      simp only [Bool.or_eq_true, decide_eq_true_eq]
      exact ⟨fun h => h.imp Eq.symm Eq.symm, fun h => h.imp Eq.symm Eq.symm⟩
    rw [e]
    exact h
theorem Own.at {H0 H H' : Hp} {l1 l2 : Reg} {q : Addr} {a b c : HO} (o : Own H0 H (l1 ++ (q, a) :: l2)) (k : Chg q c b H H') : Own H0 H' (l1 ++ (q, b) :: l2) := by
  refine o.chg k (by simp [keys]) (by simp) fun e he => ?_
  simp only [List.mem_append, List.mem_cons] at he ⊢
  rcases he with h | h | h
  · exact .inl (.inl h)
  · exact .inr h
  · exact .inl (.inr (.inr h))
/-! ### a reader as an object -/
section
variable {P : Program} {w : World} {K : PySem.W.Frag} {mg : Str → Option Value} {base : Heap}
structure BP where
  b : Addr
  d : Addr
  r : Addr
  o : Addr
  ur : List V
  uo : List V
structure HP where
  p : Addr
  d : Addr
  l : Addr
  g : V
  us : List V
structure RP where
  x : Addr
  dx : Addr
  lr : Addr
  lh : Addr
  lb : Addr
  ur : List V
  uh : List V
  hd : Option HP
  bs : List BP
def bIns (T : Tx K mg) (p : BP) (k : Blk) : HO := .ins T.a_Block p.d (fsBlock (.str k.w) (atV k.a) (.ref p.r) (.ref p.o) (.bl k.beyond))
def bReg (T : Tx K mg) (p : BP) (k : Blk) : Reg := [(p.b, bIns T p k), (p.r, .lst p.ur), (p.o, .lst p.uo)]
def bsReg (T : Tx K mg) : List BP → List Blk → Reg
  | p :: ps, k :: ks => bReg T p k ++ bsReg T ps ks
  | _, _ => []
def hReg (T : Tx K mg) : Option HP → Option (Str × List Dt × Option Str) → Reg
  | some h, some z => [(h.p, .ins T.a_Head h.d (fsHead (.str z.1) (.ref h.l) h.g)), (h.l, .lst h.us)]
  | _, _ => []
def hV : Option HP → V
  | none => .non
  | some h => .ref h.p
def bsL (bs : List BP) : List V := (bs.map fun p => V.ref p.b).reverse
def rIns (T : Tx K mg) (R : RP) (n : Nat) (lb : Addr) (hv : V) : HO := .ins T.a_Reader R.dx (fsReader (.ref R.lr) (.ref R.lh) hv (.ref lb) (.int (n : Int)))
def rTop (T : Tx K mg) (R : RP) (n : Nat) : Reg := [(R.x, rIns T R n R.lb (hV R.hd)), (R.lr, .lst R.ur), (R.lh, .lst R.uh), (R.lb, .lst (bsL R.bs))]
def rReg (T : Tx K mg) (R : RP) (st : RS) : Reg := rTop T R st.pts ++ (hReg T R.hd st.begun ++ bsReg T R.bs st.blks)
def HdAt (H : Hp) : Option HP → Option (Str × List Dt × Option Str) → Prop
  | none, none => True
  | some h, some z => IsDs (imm H) z.2.1 h.us ∧ IsD (imm H) (optD z.2.2) h.g
  | _, _ => False
def BlsAt (T : Tx K mg) (H : Hp) : List BP → List Blk → Prop
  | [], [] => True
  | p :: ps, k :: ks => (ElsAt T (imm H) k.rows p.ur ∧ ElsAt T (imm H) k.others p.uo) ∧ BlsAt T H ps ks
  | _, _ => False
structure RAt (T : Tx K mg) (H0 H : Hp) (R : RP) (st : RS) : Prop where
  own : Own H0 H (rReg T R st)
  rcs : ElsAt T (imm H) st.recs R.ur
  hel : ElsAt T (imm H) st.hels R.uh
  hd : HdAt H R.hd st.begun
  blk : BlsAt T H R.bs st.blks
theorem HdAt.keep {H H' : Hp} (k : KI H H') : ∀ {h : Option HP} {z : Option (Str × List Dt × Option Str)}, HdAt H h z → HdAt H' h z
  | none, none, _ => trivial
  | some _, some _, h => ⟨h.1.keep k, h.2.keep k⟩
  | none, some _, h => h.elim
  | some _, none, h => h.elim
theorem BlsAt.keep {T : Tx K mg} {H H' : Hp} (k : KI H H') : ∀ {ps : List BP} {ks : List Blk}, BlsAt T H ps ks → BlsAt T H' ps ks
  | [], [], _ => trivial
  | _ :: _, _ :: _, h => ⟨⟨ElsAt.keep k h.1.1, ElsAt.keep k h.1.2⟩, BlsAt.keep k h.2⟩
  | [], _ :: _, h => h.elim
  | _ :: _, [], h => h.elim
/-- counts -/
def rows_ (ks : List Blk) : Nat := (ks.map fun k => k.rows.length + k.others.length).sum
structure RSok (st : RS) : Prop where
  cnt : rows_ st.blks + st.blks.length ≤ st.pts + 1
  pts : st.pts ≤ 60
  rcs : st.recs.length ≤ 6
  hel : st.hels.length ≤ 6
  bot : st.begun ≠ none → ∃ (l : List Blk) (b : Blk), st.blks = l ++ [b] ∧ b.w = wS "helper"
  few : st.begun ≠ none → st.hels.length ≤ 5
  nob : st.begun = none → st.blks = []
theorem RSok.start : RSok RS.start := ⟨by decide, by decide, by decide, by decide, fun h => absurd rfl h, fun h => absurd rfl h, fun _ => rfl⟩
theorem put_len (b : Blk) (e : El) : (b.put e).rows.length + (b.put e).others.length = b.rows.length + b.others.length + 1 := by
  unfold Blk.put
  split <;> simp [List.length_append] <;> omega
theorem put_w (b : Blk) (e : El) : (b.put e).w = b.w := by
  unfold Blk.put
  split <;> rfl
theorem bot_put {l : List Blk} {b c : Blk} {r : List Blk} {x : Blk} (h : c :: r = l ++ [b]) (hw : b.w = wS "helper") (hx : x.w = c.w) : ∃ (l' : List Blk) (b' : Blk), x :: r = l' ++ [b'] ∧ b'.w = wS "helper" := by
  cases l with
  | nil =>
    cases h
    exact ⟨[], x, rfl, hx.trans hw⟩
  | cons y l =>
    cases h
    exact ⟨x :: l, b, rfl, hw⟩
theorem openF_ok {st st' : RS} {ws : List Str} (hb0 : st.begun ≠ none) (o : RSok st) (h : openF st ws = some st') : RSok st' := by
  unfold openF at h
  split at h
  · split at h
    · split at h
      · rename_i hc
        cases h
        refine ⟨?_, by show st.pts + 1 ≤ 60; omega, o.rcs, o.hel, fun hb => ?_, o.few, fun z => absurd z hb0⟩
        · have := o.cnt
          show rows_ (_ :: st.blks) + (_ :: st.blks).length ≤ st.pts + 1 + 1
          simp only [rows_, List.map_cons, List.sum_cons, List.length_cons, List.length_nil] at this ⊢
          omega
        · obtain ⟨l, b, e, hw⟩ := o.bot hb
          exact ⟨_ :: l, b, by show _ :: st.blks = _; rw [e]; rfl, hw⟩
      · cases h
    · cases h
  · cases h
theorem turnF_ok {st st' : RS} (hb0 : st.begun ≠ none) (o : RSok st) (h : turnF st = some st') : RSok st' := by
  unfold turnF at h
  split at h
  · rename_i b r e
    split at h
    · cases h
      refine ⟨?_, o.pts, o.rcs, o.hel, fun hb => ?_, o.few, fun z => absurd z hb0⟩
      · have := o.cnt
        rw [e] at this
        exact this
      · obtain ⟨l, c, e2, hw⟩ := o.bot hb
        exact bot_put (c := b) (r := r) (x := { b with beyond := true }) (e.symm.trans e2) hw rfl
    · cases h
  · cases h
theorem shutF_ok {w : Str} {st st' : RS} (hb0 : st.begun ≠ none) (o : RSok st) (h : shutF w st = some st') : RSok st' := by
  unfold shutF at h
  split at h
  · rename_i b c r e
    split at h
    · cases h
      refine ⟨?_, o.pts, o.rcs, o.hel, fun hb => ?_, o.few, fun z => absurd z hb0⟩
      · have := o.cnt
        have h2 := put_len c (b.made w)
        rw [e] at this
        show rows_ (_ :: r) + (_ :: r).length ≤ st.pts + 1
        simp only [rows_, List.map_cons, List.sum_cons, List.length_cons] at this ⊢
        omega
      · obtain ⟨l, z, e2, hw⟩ := o.bot hb
        rw [e] at e2
        cases l with
        | nil => cases e2
        | cons y l => exact bot_put (c := c) (r := r) (x := c.put (b.made w)) (List.cons.inj e2).2 hw (put_w _ _)
    · cases h
  · cases h
theorem endF_ok {st st' : RS} (o : RSok st) (h : endF st = some st') : RSok st' := by
  unfold endF at h
  split at h
  · rename_i b n ps g e1 e2
    have hf := o.few (by rw [e2]; simp)
    cases h
    refine ⟨by show 0 + 0 ≤ _; omega, o.pts, o.rcs, ?_, fun hb => absurd rfl hb, fun hb => absurd rfl hb, fun _ => rfl⟩
    show (st.hels ++ [_]).length ≤ 6
    rw [List.length_append, List.length_singleton]
    omega
  · cases h
theorem withinF_ok {st st' : RS} {ws : List Str} (hb0 : st.begun ≠ none) (o : RSok st) (h : withinF st ws = some st') : RSok st' := by
  unfold withinF at h
  split at h
  · exact openF_ok hb0 o h
  · split at h
    · exact turnF_ok hb0 o h
    · split at h
      · exact shutF_ok hb0 o h
      · split at h
        · exact shutF_ok hb0 o h
        · split at h
          · exact endF_ok o h
          · split at h
            · rename_i r b bs e1 e2
              split at h
              · cases h
                refine ⟨?_, by show st.pts + 1 ≤ 60; omega, o.rcs, o.hel, fun hb => ?_, o.few, fun z => absurd z hb0⟩
                · have := o.cnt
                  have h2 := put_len b (.row r)
                  rw [e2] at this
                  show rows_ (_ :: bs) + (_ :: bs).length ≤ st.pts + 1 + 1
                  simp only [rows_, List.map_cons, List.sum_cons, List.length_cons] at this ⊢
                  omega
                · obtain ⟨l, c, e3, hw⟩ := o.bot hb
                  exact bot_put (c := b) (r := bs) (x := b.put (.row r)) (e2.symm.trans e3) hw (put_w _ _)
              · cases h
            · cases h
theorem withoutF_ok {st st' : RS} {ws : List Str} (o : RSok st) (hb : st.begun = none) (h : withoutF st ws = some st') : RSok st' := by
  unfold withoutF at h
  split at h
  · split at h
    · split at h
      · rename_i r e hc
        cases h
        refine ⟨o.cnt, o.pts, ?_, o.hel, fun z => absurd hb z, fun z => absurd hb z, o.nob⟩
        show (st.recs ++ [_]).length ≤ 6
        rw [List.length_append, List.length_singleton]
        omega
      · cases h
    · cases h
  · split at h
    · rename_i hc
      split at h
      · cases h
        refine ⟨by show 0 + 1 ≤ 0 + 1; omega, by show 0 ≤ 60; omega, o.rcs, o.hel, fun _ => ⟨[], _, rfl, rfl⟩, fun _ => ?_, fun z => by cases z⟩
        have := hc.2
        show st.hels.length ≤ 5
        omega
      · cases h
    · cases h
theorem goodF_ok {st st' : RS} {ws : List Str} (o : RSok st) (h : goodF st ws = some st') : RSok st' := by
  unfold goodF at h
  split at h
  · rename_i hb
    exact withoutF_ok o hb h
  · exact withinF_ok (by assumption) o h
theorem RAt.step {T : Tx K mg} {H0 H H' : Hp} {R : RP} {st : RS} (M : RAt T H0 H R st) (s : Same H H') : RAt T H0 H' R st :=
  ⟨M.own.step s, ElsAt.keep (KI.same s) M.rcs, ElsAt.keep (KI.same s) M.hel, M.hd.keep (KI.same s), M.blk.keep (KI.same s)⟩
theorem RAt.rebase {T : Tx K mg} {H00 H0 H : Hp} {R : RP} {st : RS} (M : RAt T H0 H R st) (s : Same H00 H0) : RAt T H00 H R st := ⟨M.own.base s, M.rcs, M.hel, M.hd, M.blk⟩
section
variable {T : Tx K mg} {H0 H H' : Hp} {R : RP} {st : RS}
theorem RAt.x (M : RAt T H0 H R st) : H R.x = some (rIns T R st.pts R.lb (hV R.hd)) := M.own.get (by simp [rReg, rTop])
theorem RAt.lr (M : RAt T H0 H R st) : H R.lr = some (.lst R.ur) := M.own.get (by simp [rReg, rTop])
theorem RAt.lh (M : RAt T H0 H R st) : H R.lh = some (.lst R.uh) := M.own.get (by simp [rReg, rTop])
theorem RAt.lb (M : RAt T H0 H R st) : H R.lb = some (.lst (bsL R.bs)) := M.own.get (by simp [rReg, rTop])
theorem BlsAt.len : ∀ {ps : List BP} {ks : List Blk}, BlsAt T H ps ks → ps.length = ks.length
  | [], [], _ => rfl
  | _ :: _, _ :: _, h => by simp only [List.length_cons]; rw [BlsAt.len h.2]
  | [], _ :: _, h => h.elim
  | _ :: _, [], h => h.elim
theorem bsL_len (bs : List BP) : (bsL bs).length = bs.length := by simp [bsL]
theorem RAt.blen (M : RAt T H0 H R st) : (bsL R.bs).length = st.blks.length := by rw [bsL_len, M.blk.len]
theorem mut_reader (v0 v1 v2 v3 v4 : V) : mutF (fsReader v0 v1 v2 v3 v4) = true := by rfl
theorem mut_block (v0 v1 v2 v3 v4 : V) : mutF (fsBlock v0 v1 v2 v3 v4) = true := by rfl
theorem RAt.setPts {c : HO} {n : Nat} (M : RAt T H0 H R st) (k : Chg R.x c (rIns T R n R.lb (hV R.hd)) H H') : RAt T H0 H' R { st with pts := n } := by
  have ki : KI H H' := KI.but k.but M.x (mut_reader ..)
  exact ⟨Own.at (l1 := []) M.own k, ElsAt.keep ki M.rcs, ElsAt.keep ki M.hel, M.hd.keep ki, M.blk.keep ki⟩
theorem RAt.addRec {c : HO} {e : El} {v : V} (M : RAt T H0 H R st) (k : Chg R.lr c (.lst (R.ur ++ [v])) H H') (he : ElAt T (imm H) e v) : RAt T H0 H' { R with ur := R.ur ++ [v] } { st with recs := st.recs ++ [e] } := by
  have ki : KI H H' := KI.but k.but M.lr trivial
  exact ⟨Own.at (l1 := [(R.x, rIns T R st.pts R.lb (hV R.hd))]) M.own k, ElsAt.snoc (ElAt.keep ki he) (ElsAt.keep ki M.rcs), ElsAt.keep ki M.hel, M.hd.keep ki, M.blk.keep ki⟩
theorem RAt.pushBlk {c : HO} {p : BP} {k : Blk} {H1 : Hp} (M : RAt T H0 H R st) (o : Own H H1 (bReg T p k)) (z : Chg R.lb c (.lst (bsL R.bs ++ [.ref p.b])) H1 H') (h1 : ElsAt T (imm H1) k.rows p.ur) (h2 : ElsAt T (imm H1) k.others p.uo) :
    RAt T H0 H' { R with bs := p :: R.bs } { st with blks := k :: st.blks } := by
  have M1 := M.step o.same
  have ki : KI H1 H' := KI.but z.but M1.lb trivial
  have own1 : Own H0 H1 (bReg T p k ++ rReg T R st) := M.own.join o
  have own2 : Own H0 H1 (rTop T R st.pts ++ (hReg T R.hd st.begun ++ (bReg T p k ++ bsReg T R.bs st.blks))) := own1.perm (by
    unfold rReg
    exact ((List.perm_append_comm_assoc _ _ _).trans (List.Perm.append_left _ (List.perm_append_comm_assoc _ _ _))).symm)
  refine ⟨?_, ElsAt.keep ki M1.rcs, ElsAt.keep ki M1.hel, M1.hd.keep ki, ⟨ElsAt.keep ki h1, ElsAt.keep ki h2⟩, M1.blk.keep ki⟩
  have own3 := Own.at (l1 := [(R.x, rIns T R st.pts R.lb (hV R.hd)), (R.lr, .lst R.ur), (R.lh, .lst R.uh)]) own2 z
  have e : bsL (p :: R.bs) = bsL R.bs ++ [.ref p.b] := by simp [bsL]
  show Own H0 H' ([(R.x, rIns T R st.pts R.lb (hV R.hd)), (R.lr, .lst R.ur), (R.lh, .lst R.uh), (R.lb, .lst (bsL (p :: R.bs)))] ++ (hReg T R.hd st.begun ++ (bReg T p k ++ bsReg T R.bs st.blks)))
  rw [e]
  exact own3
/-- the block on top -/
theorem RAt.top {b : Blk} {bs : List Blk} (M : RAt T H0 H R st) (hs : st.blks = b :: bs) : ∃ p ps, R.bs = p :: ps ∧ H p.b = some (bIns T p b) ∧ H p.r = some (.lst p.ur) ∧ H p.o = some (.lst p.uo) ∧ ElsAt T (imm H) b.rows p.ur ∧ ElsAt T (imm H) b.others p.uo ∧ BlsAt T H ps bs := by
  have h := M.blk
  rw [hs] at h
  cases hR : R.bs with
  | nil => rw [hR] at h; exact h.elim
  | cons p ps =>
    rw [hR] at h
    have hm : ∀ e ∈ bReg T p b, e ∈ rReg T R st := fun e he => by
      unfold rReg
      rw [hs, hR]
      exact List.mem_append_right _ (List.mem_append_right _ (List.mem_append_left _ he))
    exact ⟨p, ps, rfl, M.own.get (hm _ (by simp [bReg])), M.own.get (hm _ (by simp [bReg])), M.own.get (hm _ (by simp [bReg])), h.1.1, h.1.2, h.2⟩
theorem RAt.setB {b b' : Blk} {bs : List Blk} {p : BP} {ps : List BP} {c : HO} (M : RAt T H0 H R st) (hs : st.blks = b :: bs) (hR : R.bs = p :: ps) (z : Chg p.b c (bIns T p b') H H') (h1 : b'.rows = b.rows) (h2 : b'.others = b.others) : RAt T H0 H' R { st with blks := b' :: bs } := by
  have own := M.own
  unfold rReg at own
  rw [hs, hR] at own
  have hb : H p.b = some (bIns T p b) := own.get (by simp [bsReg, bReg])
  have ki : KI H H' := KI.but z.but hb (mut_block ..)
  have hk := M.blk
  rw [hs, hR] at hk
  refine ⟨?_, ElsAt.keep ki M.rcs, ElsAt.keep ki M.hel, M.hd.keep ki, ?_⟩
  · have o2 := Own.at (l1 := rTop T R st.pts ++ hReg T R.hd st.begun) (q := p.b) (a := bIns T p b) (l2 := [(p.r, .lst p.ur), (p.o, .lst p.uo)] ++ bsReg T ps bs) (by rw [List.append_assoc]; exact own) z
    unfold rReg
    rw [hR]
    rw [List.append_assoc] at o2
    exact o2
  · rw [hR]
    exact ⟨⟨by rw [h1]; exact ElsAt.keep ki hk.1.1, by rw [h2]; exact ElsAt.keep ki hk.1.2⟩, hk.2.keep ki⟩
theorem RAt.put {b : Blk} {bs : List Blk} {p : BP} {ps : List BP} {e : El} {v : V} (M : RAt T H0 H R st) (hs : st.blks = b :: bs) (hR : R.bs = p :: ps) (he : ElAt T (imm H) e v)
    (z : if b.beyond = true then ∃ c, Chg p.o c (.lst (p.uo ++ [v])) H H' else ∃ c, Chg p.r c (.lst (p.ur ++ [v])) H H') : ∃ R', R'.x = R.x ∧ RAt T H0 H' R' { st with blks := b.put e :: bs } := by
  have own := M.own
  unfold rReg at own
  rw [hs, hR] at own
  have hk := M.blk
  rw [hs, hR] at hk
  unfold Blk.put
  by_cases hb : b.beyond = true
  · rw [if_pos hb] at z
    rw [if_pos hb]
    obtain ⟨c, z⟩ := z
    have ki : KI H H' := KI.but z.but (own.get (by simp [bsReg, bReg]) : H p.o = some (.lst p.uo)) trivial
    refine ⟨{ R with bs := { p with uo := p.uo ++ [v] } :: ps }, rfl, ?_, ElsAt.keep ki M.rcs, ElsAt.keep ki M.hel, M.hd.keep ki, ?_⟩
    · have o2 := Own.at (l1 := rTop T R st.pts ++ hReg T R.hd st.begun ++ [(p.b, bIns T p b), (p.r, .lst p.ur)]) (q := p.o) (a := .lst p.uo) (l2 := bsReg T ps bs) (by simp only [List.append_assoc]; exact own) z
      have e1 : bsL R.bs = bsL ({ p with uo := p.uo ++ [v] } :: ps) := by rw [hR]; rfl
      simp only [List.append_assoc] at o2
      show Own H0 H' ([(R.x, rIns T R st.pts R.lb (hV R.hd)), (R.lr, .lst R.ur), (R.lh, .lst R.uh), (R.lb, .lst (bsL ({ p with uo := p.uo ++ [v] } :: ps)))] ++ _)
      rw [← e1]
      exact o2
    · exact ⟨⟨ElsAt.keep ki hk.1.1, ElsAt.snoc (ElAt.keep ki he) (ElsAt.keep ki hk.1.2)⟩, hk.2.keep ki⟩
  · rw [if_neg hb] at z
    rw [if_neg hb]
    obtain ⟨c, z⟩ := z
    have ki : KI H H' := KI.but z.but (own.get (by simp [bsReg, bReg]) : H p.r = some (.lst p.ur)) trivial
    refine ⟨{ R with bs := { p with ur := p.ur ++ [v] } :: ps }, rfl, ?_, ElsAt.keep ki M.rcs, ElsAt.keep ki M.hel, M.hd.keep ki, ?_⟩
    · have o2 := Own.at (l1 := rTop T R st.pts ++ hReg T R.hd st.begun ++ [(p.b, bIns T p b)]) (q := p.r) (a := .lst p.ur) (l2 := [(p.o, .lst p.uo)] ++ bsReg T ps bs) (by simp only [List.append_assoc]; exact own) z
      have e1 : bsL R.bs = bsL ({ p with ur := p.ur ++ [v] } :: ps) := by rw [hR]; rfl
      simp only [List.append_assoc] at o2
      show Own H0 H' ([(R.x, rIns T R st.pts R.lb (hV R.hd)), (R.lr, .lst R.ur), (R.lh, .lst R.uh), (R.lb, .lst (bsL ({ p with ur := p.ur ++ [v] } :: ps)))] ++ _)
      rw [← e1]
      exact o2
    · exact ⟨⟨ElsAt.snoc (ElAt.keep ki he) (ElsAt.keep ki hk.1.1), ElsAt.keep ki hk.1.2⟩, hk.2.keep ki⟩
theorem RAt.pop {b : Blk} {bs : List Blk} {p : BP} {ps : List BP} {c : HO} (M : RAt T H0 H R st) (hs : st.blks = b :: bs) (hR : R.bs = p :: ps) (z : Chg R.lb c (.lst (bsL R.bs).dropLast) H H') : RAt T H0 H' { R with bs := ps } { st with blks := bs } := by
  have own := M.own
  have ki : KI H H' := KI.but z.but M.lb trivial
  have hk := M.blk
  rw [hs, hR] at hk
  refine ⟨?_, ElsAt.keep ki M.rcs, ElsAt.keep ki M.hel, M.hd.keep ki, hk.2.keep ki⟩
  have o2 := Own.at (l1 := [(R.x, rIns T R st.pts R.lb (hV R.hd)), (R.lr, .lst R.ur), (R.lh, .lst R.uh)]) (q := R.lb) (a := .lst (bsL R.bs)) (l2 := hReg T R.hd st.begun ++ bsReg T R.bs st.blks) own z
  have e1 : (bsL R.bs).dropLast = bsL ps := by rw [hR]; simp [bsL]
  rw [e1, hs, hR] at o2
  show Own H0 H' ([(R.x, rIns T R st.pts R.lb (hV R.hd)), (R.lr, .lst R.ur), (R.lh, .lst R.uh), (R.lb, .lst (bsL ps))] ++ (hReg T R.hd st.begun ++ bsReg T ps bs))
  refine o2.sub ?_
  simp only [List.cons_append, List.nil_append]
  refine .cons_cons _ (.cons_cons _ (.cons_cons _ (.cons_cons _ ?_)))
  exact List.Sublist.append (List.Sublist.refl _) (List.sublist_append_right _ _)
end
end
end
section

local macro_rules | `(tactic| walk_at "use") => `(tactic| (with_reducible refine w_chain ?_))
local macro_rules | `(tactic| walk_at "use") => `(tactic| ((with_reducible apply w_lenStr); (· omega)))
local macro_rules | `(tactic| walk_at "use") => `(tactic| (with_reducible refine w_iStr ?_))
local macro_rules | `(tactic| walk_at "use") => `(tactic| (with_reducible refine w_itS ?_))
local macro_rules | `(tactic| walk_at "use") => `(tactic| ((with_reducible refine w_GT ?_); intro a ha))
local macro_rules | `(tactic| walk_at "use") => `(tactic| ((with_reducible apply w_ninC); (· assumption)))
local macro_rules | `(tactic| walk_at "use") => `(tactic| ((with_reducible apply w_inC); (· assumption)))
local macro_rules | `(tactic| walk_at "use") => `(tactic| (with_reducible refine use_atomS (by assumption) (by assumption) fun H' s => ?_))
local macro_rules | `(tactic| walk_at "use") => `(tactic| (with_reducible refine use_atomN (by assumption) (by assumption) fun H' s => ?_))
local macro_rules | `(tactic| walk_at "use") => `(tactic| (with_reducible refine use_pathS (by assumption) (by assumption) fun H' l s hl => ?_))
local macro_rules | `(tactic| walk_at "use") => `(tactic| (with_reducible refine use_pathN (by assumption) (by assumption) fun H' s => ?_))
local macro_rules | `(tactic| walk_at "use") => `(tactic| (with_reducible refine use_name (by assumption) fun H' s => ?_))
local macro_rules | `(tactic| walk_at "use") => `(tactic| (with_reducible refine use_kind (by assumption) fun H' s => ?_))
local macro_rules | `(tactic| walk_at "use") => `(tactic| (with_reducible refine w_nnT ?_))
local macro_rules | `(tactic| walk_at "use") => `(tactic| (with_reducible refine w_nnF ?_))
local macro_rules | `(tactic| walk_at "use") => `(tactic| (with_reducible refine iteDT (by assumption) ?_))
local macro_rules | `(tactic| walk_at "use") => `(tactic| (with_reducible refine iteDF (by assumption) ?_))
local macro_rules | `(tactic| walk_at "use") => `(tactic| (with_reducible refine w_ndT (by assumption) ?_))
local macro_rules | `(tactic| walk_at "use") => `(tactic| (with_reducible refine w_ndF (by assumption) ?_))
local macro_rules | `(tactic| walk_at "use") => `(tactic| first
  | with_reducible refine w_fldaug ?_
  | ((with_reducible apply w_fldaug1); (· walk_at "look"); (· assumption); (· assumption); (· exact rfl))
  | ((with_reducible apply w_fldaug2); (· walk_at "look"); (· first | exact (by decide : 5 < 1000) | exact (by decide)); intro H' c)
  | with_reducible refine w_ipI ?_
  | with_reducible refine w_radd ?_
  | ((with_reducible apply w_eqNil); (· walk_at "look"); (· walk_at "look"))
  | ((with_reducible apply w_neNil); (· walk_at "look"); (· walk_at "look"))
  | ((with_reducible apply w_pop); (· walk_at "look"); (· first | assumption | exact rfl); intro H' c)
  | with_reducible refine w_iEnum ?_
  | ((with_reducible apply w_iEnum1); (· walk_at "look"))
  | with_reducible refine w_sl2 ?_
  | ((with_reducible apply w_slE); (· walk_at "look"); intro p H' n)
  | with_reducible refine w_rng3 ?_)
local macro_rules | `(tactic| walk_at "use") => `(tactic| (with_reducible refine use_IfRowL (by walk_at "look") (by walk_at "look") fun x dx r0 r1 H' n g0 g1 => ?_))
local macro_rules | `(tactic| walk_at "use") => `(tactic| (with_reducible refine use_WhileRowL (by walk_at "look") fun x dx r0 H' n g0 => ?_))
local macro_rules | `(tactic| walk_at "use") => `(tactic| (with_reducible refine use_RecordL (by walk_at "look") fun x dx r0 H' n g0 => ?_))
local macro_rules | `(tactic| walk_at "use") => `(tactic| (with_reducible refine use_HelperL (by walk_at "look") (by walk_at "look") fun x dx r0 r1 H' n g0 g1 => ?_))
local macro_rules | `(tactic| walk_at "use") => `(tactic| (with_reducible refine use_ProgramL (by walk_at "look") (by walk_at "look") fun x dx r0 r1 H' n g0 g1 => ?_))
local macro_rules | `(tactic| walk_at "use") => `(tactic| (with_reducible refine use_Head fun x dx H' n => ?_))
local macro_rules | `(tactic| walk_at "use") => `(tactic| (with_reducible refine use_Block fun x dx r o H' ow sm => ?_))
local macro_rules | `(tactic| walk_at "use") => `(tactic| (with_reducible refine use_Reader fun x dx r h b H' ow sm => ?_))
/-! ### pairs of words -/
def pairsOf : List Str → List Dt
  | x :: y :: r => .tup [.str x, .str y] :: pairsOf r
  | _ => []
theorem fieldsF_eq : ∀ r : List Str, fieldsF r = if r.length % 2 = 0 ∧ (∀ x ∈ every2 r, nameOk x) ∧ (∀ x ∈ every2 (r.drop 1), kindS x) then some (pairsOf r) else none
  | [] => by
    rw [if_pos ⟨rfl, fun x (h : x ∈ ([] : List Str)) => absurd h List.not_mem_nil, fun x (h : x ∈ ([] : List Str)) => absurd h List.not_mem_nil⟩]
    rfl
  | [x] => by
    rw [if_neg fun h => by have := h.1; simp at this]
    rfl
  | x :: y :: r => by
    have ih := fieldsF_eq r
    show (if nameOk x ∧ kindS y then (fieldsF r).map (.tup [.str x, .str y] :: ·) else none) = _
    have e1 : every2 (x :: y :: r) = x :: every2 r := rfl
    have e2 : every2 ((x :: y :: r).drop 1) = y :: every2 (r.drop 1) := every2_cons y r
    have e3 : (x :: y :: r).length % 2 = r.length % 2 := by simp only [List.length_cons]; omega
    rw [ih, e1, e2, e3]
    by_cases h : r.length % 2 = 0 ∧ (∀ x ∈ every2 r, nameOk x) ∧ (∀ x ∈ every2 (r.drop 1), kindS x)
    · rw [if_pos h]
      by_cases h2 : nameOk x ∧ kindS y
      · have h3 : r.length % 2 = 0 ∧ (∀ z ∈ x :: every2 r, nameOk z) ∧ (∀ z ∈ y :: every2 (r.drop 1), kindS z) := ⟨h.1, fun z hz => by
          rcases List.mem_cons.mp hz with rfl | hz
          · exact h2.1
          · exact h.2.1 z hz, fun z hz => by
          rcases List.mem_cons.mp hz with rfl | hz
          · exact h2.2
          · exact h.2.2 z hz⟩
        rw [if_pos h2, if_pos h3]
        rfl
      · have h3 : ¬ (r.length % 2 = 0 ∧ (∀ z ∈ x :: every2 r, nameOk z) ∧ (∀ z ∈ y :: every2 (r.drop 1), kindS z)) := fun z => h2 ⟨z.2.1 x (List.mem_cons_self ..), z.2.2 y (List.mem_cons_self ..)⟩
        rw [if_neg h2, if_neg h3]
    · have h3 : ¬ (r.length % 2 = 0 ∧ (∀ z ∈ x :: every2 r, nameOk z) ∧ (∀ z ∈ y :: every2 (r.drop 1), kindS z)) := fun z => h ⟨z.1, fun t ht => z.2.1 t (List.mem_cons_of_mem _ ht), fun t ht => z.2.2 t (List.mem_cons_of_mem _ ht)⟩
      rw [if_neg h, if_neg h3]
      by_cases h2 : nameOk x ∧ kindS y
      · rw [if_pos h2]
        rfl
      · rw [if_neg h2]
theorem pairs_at : ∀ {r : List Str} {i : Nat} {x y : Str}, r[2 * i]? = some x → r[2 * i + 1]? = some y → (pairsOf r)[i]? = some (.tup [.str x, .str y])
  | [], i, x, y, h, _ => by simp at h
  | [a], i, x, y, _, h => by simp at h
  | a :: b :: r, 0, x, y, h1, h2 => by
    simp at h1 h2
    subst h1 h2
    rfl
  | a :: b :: r, i + 1, x, y, h1, h2 => by
    have e1 : (a :: b :: r)[2 * (i + 1)]? = r[2 * i]? := by rw [show 2 * (i + 1) = 2 * i + 1 + 1 from by omega]; rfl
    have e2 : (a :: b :: r)[2 * (i + 1) + 1]? = r[2 * i + 1]? := by rw [show 2 * (i + 1) + 1 = 2 * i + 1 + 1 + 1 from by omega]; rfl
    rw [e1] at h1
    rw [e2] at h2
    exact pairs_at (r := r) (i := i) h1 h2
theorem pairs_len : ∀ {r : List Str}, r.length % 2 = 0 → (pairsOf r).length = (r.length + 1) / 2
  | [], _ => rfl
  | [a], h => by simp at h
  | a :: b :: r, h => by
    have := pairs_len (r := r) (by simp only [List.length_cons] at h; omega)
    show (pairsOf r).length + 1 = _
    simp only [List.length_cons]
    omega
/-! ### records, parameters, heads read -/
section
variable {P : Program} {w : World} {K : PySem.W.Frag} {mg : Str → Option Value} {base : Heap}
def spRecBy (T : Tx K mg) : Sp := fun vs H Q _ => ∃ (a : Addr) (ws : List Str), vs = [.ref a] ∧ WAt H a ws ∧ (∀ e H' v, recF ws = some e → Same H H' → ElAt T H' e v → Q v H') ∧ ∀ H', recF ws = none → Same H H' → Q .non H'
theorem ok_record_by (T : Tx K mg) : FnOk P w K mg base CX0 3 T.f_record_by T.d_record_by ["words"] (spRecBy T) := by
  refine T.F_record_by.ok sc_record_by (fun vs H Q E h => ?_) (fun cdv A outer s H vs Q E hr h => ?_)
  · obtain ⟨a, ws, rfl, _⟩ := h
    rfl
  · obtain ⟨a, ws, rfl, ⟨ha, hl, hw⟩, q1, q0⟩ := h
    refine ⟨_, (pss_cons (ps_set (i := 1) sc_record_by.nd rfl (Or.inr rfl) (pe_slice (sl_listK (K := K) rfl) (pv 0) (po_some pe_int) po_none))
      (pss_cons (ps_if (PW.pt (pw_or (pt_cmpR op_lt (pe_callB (len_seqK (K := K) rfl) (by rfl) T.n_len PySem.boot_len (pa_cons (pv 1) pa_nil)) pe_int (nomark _)) (pw_or (pt_cmpR op_eq (pe_op op_mod (pe_callB (len_seqK (K := K) rfl) (by rfl) T.n_len PySem.boot_len (pa_cons (pv 1) pa_nil)) pe_int) pe_int (nomark _)) (pw_or (pt_cmpR op_gt (pe_callB (len_seqK (K := K) rfl) (by rfl) T.n_len PySem.boot_len (pa_cons (pv 1) pa_nil)) (pe_op op_mul pe_int (pe_globI rfl T.m_MOST_FIELDS)) (nomark _)) (pw_or1 (pt_not (pt_val (pe_call (ok_is_name T) (hr.mono (by omega)) rfl T.m_is_name T.F_is_name.kp T.B_is_name .nil pass0 (pa_cons (pe_ix (ix_listK (K := K) rfl) (pv 0) pe_int (fun _ _ => rfl)) pa_nil)))))))))
        (pss_one (ps_ret pe_non))
        pss_nil)
      (pss_cons (ps_if (PW.pt (pw_or (pt_not (pt_val (pe_callB (cr_allK (K := K) rfl rfl) (by rfl) T.n_all (by decide +kernel) (pa_cons (pe_lc (own := [("name", 3)]) (g := gName 3) (tt := tYes) rfl sc_record_by.nd (pi_listK (K := K) rfl (pe_slice2 (K := K) rfl (pv 1) po_none (po_some pe_int))) (blkOk_by (own := [("name", 3)]) (N := ["words", "parts", "k", "name", "kind"]) (sc := defScope s_record_by) (by decide +kernel)) (fun _ _ _ _ _ => pg_name (i := 3) sc_record_by.nd rfl (Or.inl rfl)) (fun _ _ _ _ _ => pts_nil) (fun _ _ _ _ _ => (pe_call (ok_is_name T) (hr.mono (by omega)) rfl T.m_is_name T.F_is_name.kp T.B_is_name .nil pass0 (pa_cons (pv 3) pa_nil)))) pa_nil)))) (pw_or1 (pt_not (pt_val (pe_callB (cr_allK (K := K) rfl rfl) (by rfl) T.n_all (by decide +kernel) (pa_cons (pe_lc (own := [("kind", 4)]) (g := gName 4) (tt := tYes) rfl sc_record_by.nd (pi_listK (K := K) rfl (pe_slice2 (K := K) rfl (pv 1) (po_some pe_int) (po_some pe_int))) (blkOk_by (own := [("kind", 4)]) (N := ["words", "parts", "k", "name", "kind"]) (sc := defScope s_record_by) (by decide +kernel)) (fun _ _ _ _ _ => pg_name (i := 4) sc_record_by.nd rfl (Or.inl rfl)) (fun _ _ _ _ _ => pts_nil) (fun _ _ _ _ _ => (pe_call (ok_is_kind T) (hr.mono (by omega)) rfl T.m_is_kind T.F_is_kind.kp T.B_is_kind .nil pass0 (pa_cons (pv 4) pa_nil)))) pa_nil)))))))
        (pss_one (ps_ret pe_non))
        pss_nil)
      (pss_one (ps_ret (pe_make T.Mk_Record (ok_Record_initL T) (hr.mono (by omega)) rfl T.c_Record T.B_Record_init .nil pass0 (pa_cons (pe_ix (ix_listK (K := K) rfl) (pv 0) pe_int (fun _ _ => rfl)) (pa_cons (pe_lc (own := [("k", 2)]) (g := gName 2) (tt := tYes) rfl sc_record_by.nd (pi_range3 rfl T.n_range (pa_cons pe_int (pa_cons (pe_callB (len_seqK (K := K) rfl) (by rfl) T.n_len PySem.boot_len (pa_cons (pv 1) pa_nil)) (pa_cons pe_int pa_nil)))) (blkOk_by (own := [("k", 2)]) (N := ["words", "parts", "k", "name", "kind"]) (sc := defScope s_record_by) (by decide +kernel)) (fun _ _ _ _ _ => pg_name (i := 2) sc_record_by.nd rfl (Or.inl rfl)) (fun _ _ _ _ _ => pts_nil) (fun _ _ _ _ _ => (pe_tup (pa_cons (pe_ix (ix_listK (K := K) rfl) (pv 1) (pv 2) (fun _ _ => rfl)) (pa_cons (pe_ix (ix_listK (K := K) rfl) (pv 1) (pe_op op_add (pv 2) pe_int) (fun _ _ => rfl)) pa_nil))))) pa_nil)))))))), ?_⟩
    have hsz := sizeLine_eq
    match ws, ha, hl, hw, q1, q0 with
    | [], ha, hl, hw, q1, q0 =>
      walk_at "sy"
      exact q0 _ rfl (by walk_at "sm")
    | [x0], ha, hl, hw, q1, q0 =>
      walk_at "sy"
      exact q0 _ rfl (by walk_at "sm")
    | x0 :: x1 :: r, ha, hl, hw, q1, q0 =>
      have l1 := hw x1 (by simp)
      have a1 : atI (List.map V.str (x0 :: x1 :: r)) 1 = some (.str x1) := atI_nat (j := 1) rfl
      have eq : recF (x0 :: x1 :: r) = if 2 ≤ r.length ∧ r.length ≤ 8 ∧ nameOk x1 then (fieldsF r).map (.rcd x1) else none := rfl
      have wr : ∀ w ∈ r, w.length ≤ 100000 := fun w hm => hw w (List.mem_cons_of_mem _ (List.mem_cons_of_mem _ hm))
      walk_at "sy"
      rename_i p1 H1 n1
      have e1 : cutV (List.map V.str (x0 :: x1 :: r)) (some 2) none = r.map V.str := cut_from (ws := x0 :: x1 :: r) 2
      rw [e1] at n1 ⊢
      rw [List.length_map]
      by_cases h2 : 2 ≤ r.length
      · refine iteDF (by omega) ?_
        walk_at "sy"
        rw [List.length_map]
        by_cases hod : r.length % 2 = 0
        · refine iteDF (by omega) ?_
          walk_at "sy"
          rw [List.length_map]
          by_cases h8 : r.length ≤ 8
          · refine iteDF (by omega) ?_
            by_cases hx1 : nameOk x1
            · have er : recF (x0 :: x1 :: r) = (fieldsF r).map (.rcd x1) := by rw [eq, if_pos ⟨h2, h8, hx1⟩]
              walk_at "sy"
              rename_i H2 s2 p3 H3 n3
              have e3 : every2 (List.drop (HT.sIx (List.map V.str r).length 0 none) (List.map V.str r)) = (every2 r).map V.str := by rw [HT.sIx_none, List.drop_zero, every2_map]
              have n3 : New p3 (.lst ((every2 r).map V.str)) H2 H3 := e3 ▸ n3
              have a1r : H3 p1 = some (.lst (r.map V.str)) := by walk_at "look"
              have le2 := every2_len r
              refine k_lcL ((every2 r).map V.str) (fun D i Hx => Same H3 Hx ∧ Hx D = some (.lst (((every2 r).take i).map fun c => V.bl (decide (nameOk c))))) (fun D Hx n => ⟨n.same, n.at_⟩) (fun D i Hx _ h => SqL.of (h.1 _ _ n3.at_)) ?_ ?_
              · skip
                rintro D hD i v Hx hx ⟨sx, hDx⟩
                obtain ⟨x, hx', rfl⟩ := map_at hx
                have hi := (List.getElem?_eq_some_iff.mp hx').1
                walk_at "sy"
                refine ⟨x, rfl, wr x (every2_mem (List.mem_of_getElem? hx')), fun H3 s3 => ?_⟩
                refine w_acc (s3 _ _ hDx) (by rw [List.length_map, List.length_take]; omega) fun H2 c2 => ?_
                refine ⟨c2.sameOwn (sx.trans s3) hD, ?_⟩
                rw [take_snoc hx', List.map_append]
                exact c2.at_
              · rintro D hD Hx ⟨sx, hDx⟩
                rw [List.length_map, List.take_length] at hDx
                walk_at "sy"
                refine w_all (bs := (every2 r).map fun c => decide (nameOk c)) (by rw [List.map_map]; exact hDx) ?_
                rw [all_nam]
                have sy : Same H Hx := by walk_at "sm"
                by_cases hl1 : ∀ p ∈ every2 r, nameOk p
                · rw [decide_eq_true hl1]
                  have b1 := sx _ _ a1r
                  walk_at "sy"
                  rename_i p4 H4 n4
                  have e4 : every2 (List.drop (HT.sIx (List.map V.str r).length 0 (some 1)) (List.map V.str r)) = (every2 (r.drop 1)).map V.str := by
                    rw [show (some 1 : Option Int) = some ((1 : Nat) : Int) from rfl, HT.sIx_nat, List.length_map, Nat.min_eq_left (by omega), ← List.map_drop, every2_map]
                  have n4 : New p4 (.lst ((every2 (r.drop 1)).map V.str)) Hx H4 := e4 ▸ n4
                  have le4 := every2_len (r.drop 1)
                  rw [List.length_drop] at le4
                  have a4r : H4 p1 = some (.lst (r.map V.str)) := n4.get b1
                  refine k_lcL ((every2 (r.drop 1)).map V.str) (fun D i Hx => Same H4 Hx ∧ Hx D = some (.lst (((every2 (r.drop 1)).take i).map fun c => V.bl (decide (kindS c))))) (fun D Hx n => ⟨n.same, n.at_⟩) (fun D i Hx _ h => SqL.of (h.1 _ _ n4.at_)) ?_ ?_
                  · skip
                    rintro D hD i v Hx hx ⟨sx, hDx⟩
                    obtain ⟨x, hx', rfl⟩ := map_at hx
                    have hi := (List.getElem?_eq_some_iff.mp hx').1
                    walk_at "sy"
                    refine ⟨x, rfl, wr x (List.mem_of_mem_drop (every2_mem (List.mem_of_getElem? hx'))), fun H3 s3 => ?_⟩
                    refine w_acc (s3 _ _ hDx) (by rw [List.length_map, List.length_take]; omega) fun H2 c2 => ?_
                    refine ⟨c2.sameOwn (sx.trans s3) hD, ?_⟩
                    rw [take_snoc hx', List.map_append]
                    exact c2.at_
                  · rintro D hD Hz ⟨sz, hDz⟩
                    rw [List.length_map, List.take_length] at hDz
                    walk_at "sy"
                    refine w_all (bs := (every2 (r.drop 1)).map fun c => decide (kindS c)) (by rw [List.map_map]; exact hDz) ?_
                    rw [all_nam]
                    have sw : Same H Hz := sy.trans (n4.same.trans sz)
                    have c1 := sz _ _ a4r
                    by_cases hl2 : ∀ p ∈ every2 (r.drop 1), kindS p
                    · rw [decide_eq_true hl2]
                      have ef : fieldsF r = some (pairsOf r) := by rw [fieldsF_eq, if_pos ⟨hod, hl1, hl2⟩]
                      walk_at "sy"
                      rw [List.length_map]
                      refine w_rng3a (n := r.length) (by omega) ?_
                      have pl := pairs_len hod
                      refine k_lcC (fun D i Hu => Same Hz Hu ∧ ∃ vs, Hu D = some (.lst vs) ∧ vs.length = i ∧ IsDs Hu ((pairsOf r).take i) vs) (fun D Hu n => ⟨n.same, [], n.at_, rfl, rfl⟩) ?_ ?_
                      · rintro D2 hD2 i Hu hi ⟨su, vs, hDu, hvl, hvs⟩
                        have hi2 : 2 * i + 1 < r.length := by omega
                        have g0 : r[2 * i]? = some r[2 * i] := List.getElem?_eq_getElem (by omega)
                        have g1 : r[2 * i + 1]? = some r[2 * i + 1] := List.getElem?_eq_getElem hi2
                        have d1 := su _ _ c1
                        have b0 : atI (List.map V.str r) (0 + ((i : Nat) : Int) * 2) = some (.str r[2 * i]) := by
                          rw [show (0 + ((i : Nat) : Int) * 2) = ((2 * i : Nat) : Int) by omega]
                          exact atI_nat (by rw [List.getElem?_map, g0]; rfl)
                        have b1 : atI (List.map V.str r) (0 + ((i : Nat) : Int) * 2 + 1) = some (.str r[2 * i + 1]) := by
                          rw [show (0 + ((i : Nat) : Int) * 2 + 1) = ((2 * i + 1 : Nat) : Int) by omega]
                          exact atI_nat (by rw [List.getElem?_map, g1]; rfl)
                        walk_at "sy"
                        rename_i p5 H5 n5 H6 c6
                        refine ⟨c6.sameOwn (su.trans n5.same) hD2, _, c6.at_, by simp [hvl], ?_⟩
                        rw [take_snoc (pairs_at g0 g1)]
                        have hnew : IsD H6 (.tup [.str r[2 * i], .str r[2 * i + 1]]) (.ref p5) := ⟨p5, _, rfl, c6.get n5.at_ (n5.ne hDu), _, _, rfl, rfl, _, _, rfl, rfl, rfl⟩
                        exact IsDs.snoc hnew ((hvs.keep (Keep.of n5.same)).keep c6.keepL)
                      · rintro D2 hD2 Hu ⟨su, vs, hDu, hvl, hvs⟩
                        rw [← pl, List.take_length] at hvs
                        walk_at "sy"
                        rename_i x7 d7 r7 H7 n7 g7
                        exact q1 (.rcd x1 (pairsOf r)) _ _ (by rw [er, ef]; rfl) (by walk_at "sm") ⟨_, _, _, rfl, n7.at_, ⟨_, _, rfl, g7, hvs.keep (Keep.of n7.same)⟩⟩
                    · rw [decide_eq_false hl2]
                      walk_at "sy"
                      have ef : fieldsF r = none := by rw [fieldsF_eq, if_neg (fun h => hl2 h.2.2)]
                      exact q0 _ (by rw [er, ef]; rfl) (by walk_at "sm")
                · rw [decide_eq_false hl1]
                  walk_at "sy"
                  have ef : fieldsF r = none := by rw [fieldsF_eq, if_neg (fun h => hl1 h.2.1)]
                  exact q0 _ (by rw [er, ef]; rfl) (by walk_at "sm")
            · walk_at "sy"
              exact q0 _ (by rw [eq, if_neg fun h => hx1 h.2.2]) (by walk_at "sm")
          · refine iteDT (by omega) ?_
            walk_at "sy"
            exact q0 _ (by rw [eq, if_neg fun h => h8 h.2.1]) (by walk_at "sm")
        · refine iteDT (by omega) ?_
          walk_at "sy"
          have ef : fieldsF r = none := by rw [fieldsF_eq, if_neg (fun h => hod h.1)]
          exact q0 _ (by rw [eq, ef]; split <;> rfl) (by walk_at "sm")
      · refine iteDT (by omega) ?_
        walk_at "sy"
        exact q0 _ (by rw [eq, if_neg fun h => h2 h.1]) (by walk_at "sm")
theorem parF_lend {x0 x1 x2 : Str} {r : List Str} (hk : isLend x0) : parF (x0 :: x1 :: x2 :: r) = if nameOk x1 ∧ nameOk x2 then some (.tup [.str x0, .str x1, .str x2], r) else none := by
  show (if isLend x0 then _ else _) = _
  rw [if_pos hk]
theorem parF_box {x0 x1 : Str} {r : List Str} (hk : ¬ isLend x0) : parF (x0 :: x1 :: r) = if nameOk x0 ∧ kindS x1 then some (.tup [.str (if x1 = wS "num" then wS "num" else wS "box"), .str x0, .str x1], r) else none := by
  show (if isLend x0 then _ else _) = _
  rw [if_neg hk]
theorem parF_l1 {x0 : Str} : parF [x0] = none := by
  show (if isLend x0 then none else none) = _
  split <;> rfl
theorem parF_l2 {x0 x1 : Str} (hk : isLend x0) : parF [x0, x1] = none := by
  show (if isLend x0 then none else _) = _
  rw [if_pos hk]
def spParBy : Sp := fun vs H Q _ => ∃ (a : Addr) (ws : List Str), vs = [.ref a] ∧ WAt H a ws ∧ 1 ≤ ws.length ∧ (∀ d r H' v, parF ws = some (d, r) → Same H H' → IsD H' d v → Q v H') ∧ ∀ H', parF ws = none → Same H H' → Q .non H'
theorem ok_param_by (T : Tx K mg) : FnOk P w K mg base CX0 3 T.f_param_by T.d_param_by ["words"] spParBy := by
  refine T.F_param_by.ok sc_param_by (fun vs H Q E h => ?_) (fun cdv A outer s H vs Q E hr h => ?_)
  · obtain ⟨a, ws, rfl, _⟩ := h
    rfl
  · obtain ⟨a, ws, rfl, ⟨ha, hl, hw⟩, hn, q1, q0⟩ := h
    refine ⟨_, (pss_cons (ps_if (pt_cmpR (in_seqK (K := K) rfl) (pe_ix (ix_listK (K := K) rfl) (pv 0) pe_int (fun _ _ => rfl)) (pe_tup (pa_cons pe_str (pa_cons pe_str pa_nil))) (by rfl))
        (pss_cons (ps_set (i := 1) sc_param_by.nd rfl (Or.inl rfl) (pe_and (pe_cmpR op_gt (pe_callB (len_seqK (K := K) rfl) (by rfl) T.n_len PySem.boot_len (pa_cons (pv 0) pa_nil)) pe_int (nomark _)) (pe_and (pe_call (ok_is_name T) (hr.mono (by omega)) rfl T.m_is_name T.F_is_name.kp T.B_is_name .nil pass0 (pa_cons (pe_ix (ix_listK (K := K) rfl) (pv 0) pe_int (fun _ _ => rfl)) pa_nil)) (pe_one (pe_call (ok_is_name T) (hr.mono (by omega)) rfl T.m_is_name T.F_is_name.kp T.B_is_name .nil pass0 (pa_cons (pe_ix (ix_listK (K := K) rfl) (pv 0) pe_int (fun _ _ => rfl)) pa_nil))))))
        (pss_one (ps_ret (pe_ifExp (pt_val (pv 1)) (pe_tup (pa_cons (pe_ix (ix_listK (K := K) rfl) (pv 0) pe_int (fun _ _ => rfl)) (pa_cons (pe_ix (ix_listK (K := K) rfl) (pv 0) pe_int (fun _ _ => rfl)) (pa_cons (pe_ix (ix_listK (K := K) rfl) (pv 0) pe_int (fun _ _ => rfl)) pa_nil)))) pe_non))))
        pss_nil)
      (pss_cons (ps_if (PW.pt (pw_or (pt_cmpR op_lt (pe_callB (len_seqK (K := K) rfl) (by rfl) T.n_len PySem.boot_len (pa_cons (pv 0) pa_nil)) pe_int (nomark _)) (pw_or (pt_not (pt_val (pe_call (ok_is_name T) (hr.mono (by omega)) rfl T.m_is_name T.F_is_name.kp T.B_is_name .nil pass0 (pa_cons (pe_ix (ix_listK (K := K) rfl) (pv 0) pe_int (fun _ _ => rfl)) pa_nil)))) (pw_or1 (pt_not (pt_val (pe_call (ok_is_kind T) (hr.mono (by omega)) rfl T.m_is_kind T.F_is_kind.kp T.B_is_kind .nil pass0 (pa_cons (pe_ix (ix_listK (K := K) rfl) (pv 0) pe_int (fun _ _ => rfl)) pa_nil))))))))
        (pss_one (ps_ret pe_non))
        pss_nil)
      (pss_one (ps_ret (pe_tup (pa_cons (pe_ifExp (pt_cmpR op_eq (pe_ix (ix_listK (K := K) rfl) (pv 0) pe_int (fun _ _ => rfl)) pe_str (nomark _)) pe_str pe_str) (pa_cons (pe_ix (ix_listK (K := K) rfl) (pv 0) pe_int (fun _ _ => rfl)) (pa_cons (pe_ix (ix_listK (K := K) rfl) (pv 0) pe_int (fun _ _ => rfl)) pa_nil)))))))), ?_⟩
    have hsz := sizeLine_eq
    match ws, ha, hl, hw, hn, q1, q0 with
    | [], ha, hl, hw, hn, q1, q0 => simp at hn
    | [x0], ha, hl, hw, hn, q1, q0 =>
      have l0 := hw x0 (by simp)
      walk_at "sy"
      have ei : inV (V.str x0) [V.str (Str.ofString "look"), V.str (Str.ofString "hand")] = decide (x0 ∈ [wS "look", wS "hand"]) := inV_strs x0 [wS "look", wS "hand"]
      rw [ei]
      by_cases hk : isLend x0
      · refine iteDT (by simpa [isLend] using hk) ?_
        walk_at "sy"
        exact q0 _ parF_l1 (by walk_at "sm")
      · refine iteDF (by simpa [isLend] using hk) ?_
        walk_at "sy"
        exact q0 _ parF_l1 (by walk_at "sm")
    | [x0, x1], ha, hl, hw, hn, q1, q0 =>
      have l0 := hw x0 (by simp)
      have l1 := hw x1 (by simp)
      walk_at "sy"
      have ei : inV (V.str x0) [V.str (Str.ofString "look"), V.str (Str.ofString "hand")] = decide (x0 ∈ [wS "look", wS "hand"]) := inV_strs x0 [wS "look", wS "hand"]
      rw [ei]
      by_cases hk : isLend x0
      · refine iteDT (by simpa [isLend] using hk) ?_
        walk_at "sy"
        exact q0 _ (parF_l2 hk) (by walk_at "sm")
      · refine iteDF (by simpa [isLend] using hk) ?_
        by_cases h0 : nameOk x0
        · by_cases h1 : kindS x1
          · skip
            by_cases h3 : x1 = wS "num"
            · walk_at "sy"
              rename_i p9 H9 n9
              have ed := parF_box (x0 := x0) (x1 := x1) (r := []) hk
              rw [if_pos ⟨h0, h1⟩, if_pos h3] at ed
              exact q1 _ _ _ _ ed (by walk_at "sm") ⟨p9, _, rfl, n9.at_, _, _, rfl, rfl, _, _, rfl, rfl, _, _, rfl, rfl, rfl⟩
            · walk_at "sy"
              rename_i p9 H9 n9
              have ed := parF_box (x0 := x0) (x1 := x1) (r := []) hk
              rw [if_pos ⟨h0, h1⟩, if_neg h3] at ed
              exact q1 _ _ _ _ ed (by walk_at "sm") ⟨p9, _, rfl, n9.at_, _, _, rfl, rfl, _, _, rfl, rfl, _, _, rfl, rfl, rfl⟩
          · walk_at "sy"
            exact q0 _ (by rw [parF_box hk, if_neg fun h => h1 h.2]) (by walk_at "sm")
        · walk_at "sy"
          exact q0 _ (by rw [parF_box hk, if_neg fun h => h0 h.1]) (by walk_at "sm")
    | x0 :: x1 :: x2 :: r, ha, hl, hw, hn, q1, q0 =>
      have l0 := hw x0 (by simp)
      have l1 := hw x1 (by simp)
      have l2 := hw x2 (by simp)
      have a0 : atI (List.map V.str (x0 :: x1 :: x2 :: r)) 0 = some (.str x0) := atI_nat (j := 0) rfl
      have a1 : atI (List.map V.str (x0 :: x1 :: x2 :: r)) 1 = some (.str x1) := atI_nat (j := 1) rfl
      have a2 : atI (List.map V.str (x0 :: x1 :: x2 :: r)) 2 = some (.str x2) := atI_nat (j := 2) rfl
      walk_at "sy"
      have ei : inV (V.str x0) [V.str (Str.ofString "look"), V.str (Str.ofString "hand")] = decide (x0 ∈ [wS "look", wS "hand"]) := inV_strs x0 [wS "look", wS "hand"]
      rw [ei]
      by_cases hk : isLend x0
      · refine iteDT (by simpa [isLend] using hk) ?_
        have h3 : (2 : Int) < ((List.map V.str (x0 :: x1 :: x2 :: r)).length : Nat) := by simp only [List.length_map, List.length_cons]; omega
        by_cases h1 : nameOk x1
        · by_cases h2 : nameOk x2
          · walk_at "sy"
            rename_i p9 H9 n9
            have ed := parF_lend (r := r) (x1 := x1) (x2 := x2) hk
            rw [if_pos ⟨h1, h2⟩] at ed
            exact q1 _ _ _ _ ed (by walk_at "sm") ⟨p9, _, rfl, n9.at_, _, _, rfl, rfl, _, _, rfl, rfl, _, _, rfl, rfl, rfl⟩
          · walk_at "sy"
            exact q0 _ (by rw [parF_lend hk, if_neg fun h => h2 h.2]) (by walk_at "sm")
        · walk_at "sy"
          exact q0 _ (by rw [parF_lend hk, if_neg fun h => h1 h.1]) (by walk_at "sm")
      · refine iteDF (by simpa [isLend] using hk) ?_
        by_cases h0 : nameOk x0
        · by_cases h1 : kindS x1
          · skip
            by_cases h3 : x1 = wS "num"
            · walk_at "sy"
              rename_i p9 H9 n9
              have ed := parF_box (x0 := x0) (x1 := x1) (r := (x2 :: r)) hk
              rw [if_pos ⟨h0, h1⟩, if_pos h3] at ed
              exact q1 _ _ _ _ ed (by walk_at "sm") ⟨p9, _, rfl, n9.at_, _, _, rfl, rfl, _, _, rfl, rfl, _, _, rfl, rfl, rfl⟩
            · walk_at "sy"
              rename_i p9 H9 n9
              have ed := parF_box (x0 := x0) (x1 := x1) (r := (x2 :: r)) hk
              rw [if_pos ⟨h0, h1⟩, if_neg h3] at ed
              exact q1 _ _ _ _ ed (by walk_at "sm") ⟨p9, _, rfl, n9.at_, _, _, rfl, rfl, _, _, rfl, rfl, _, _, rfl, rfl, rfl⟩
          · walk_at "sy"
            exact q0 _ (by rw [parF_box hk, if_neg fun h => h1 h.2]) (by walk_at "sm")
        · walk_at "sy"
          exact q0 _ (by rw [parF_box hk, if_neg fun h => h0 h.1]) (by walk_at "sm")
end
end
section

local macro_rules | `(tactic| walk_at "use") => `(tactic| (with_reducible refine w_chain ?_))
local macro_rules | `(tactic| walk_at "use") => `(tactic| ((with_reducible apply w_lenStr); (· omega)))
local macro_rules | `(tactic| walk_at "use") => `(tactic| (with_reducible refine w_iStr ?_))
local macro_rules | `(tactic| walk_at "use") => `(tactic| (with_reducible refine w_itS ?_))
local macro_rules | `(tactic| walk_at "use") => `(tactic| ((with_reducible refine w_GT ?_); intro a ha))
local macro_rules | `(tactic| walk_at "use") => `(tactic| ((with_reducible apply w_ninC); (· assumption)))
local macro_rules | `(tactic| walk_at "use") => `(tactic| ((with_reducible apply w_inC); (· assumption)))
local macro_rules | `(tactic| walk_at "use") => `(tactic| (with_reducible refine use_atomS (by assumption) (by assumption) fun H' s => ?_))
local macro_rules | `(tactic| walk_at "use") => `(tactic| (with_reducible refine use_atomN (by assumption) (by assumption) fun H' s => ?_))
local macro_rules | `(tactic| walk_at "use") => `(tactic| (with_reducible refine use_pathS (by assumption) (by assumption) fun H' l s hl => ?_))
local macro_rules | `(tactic| walk_at "use") => `(tactic| (with_reducible refine use_pathN (by assumption) (by assumption) fun H' s => ?_))
local macro_rules | `(tactic| walk_at "use") => `(tactic| (with_reducible refine use_name (by assumption) fun H' s => ?_))
local macro_rules | `(tactic| walk_at "use") => `(tactic| (with_reducible refine use_kind (by assumption) fun H' s => ?_))
local macro_rules | `(tactic| walk_at "use") => `(tactic| (with_reducible refine w_nnT ?_))
local macro_rules | `(tactic| walk_at "use") => `(tactic| (with_reducible refine w_nnF ?_))
local macro_rules | `(tactic| walk_at "use") => `(tactic| (with_reducible refine iteDT (by assumption) ?_))
local macro_rules | `(tactic| walk_at "use") => `(tactic| (with_reducible refine iteDF (by assumption) ?_))
local macro_rules | `(tactic| walk_at "use") => `(tactic| (with_reducible refine w_ndT (by assumption) ?_))
local macro_rules | `(tactic| walk_at "use") => `(tactic| (with_reducible refine w_ndF (by assumption) ?_))
local macro_rules | `(tactic| walk_at "use") => `(tactic| first
  | with_reducible refine w_fldaug ?_
  | ((with_reducible apply w_fldaug1); (· walk_at "look"); (· assumption); (· assumption); (· exact rfl))
  | ((with_reducible apply w_fldaug2); (· walk_at "look"); (· first | exact (by decide : 5 < 1000) | exact (by decide)); intro H' c)
  | with_reducible refine w_ipI ?_
  | with_reducible refine w_radd ?_
  | ((with_reducible apply w_eqNil); (· walk_at "look"); (· walk_at "look"))
  | ((with_reducible apply w_neNil); (· walk_at "look"); (· walk_at "look"))
  | ((with_reducible apply w_pop); (· walk_at "look"); (· first | assumption | exact rfl); intro H' c)
  | with_reducible refine w_iEnum ?_
  | ((with_reducible apply w_iEnum1); (· walk_at "look"))
  | with_reducible refine w_sl2 ?_
  | ((with_reducible apply w_slE); (· walk_at "look"); intro p H' n)
  | with_reducible refine w_rng3 ?_)
local macro_rules | `(tactic| walk_at "use") => `(tactic| (with_reducible refine use_IfRowL (by walk_at "look") (by walk_at "look") fun x dx r0 r1 H' n g0 g1 => ?_))
local macro_rules | `(tactic| walk_at "use") => `(tactic| (with_reducible refine use_WhileRowL (by walk_at "look") fun x dx r0 H' n g0 => ?_))
local macro_rules | `(tactic| walk_at "use") => `(tactic| (with_reducible refine use_RecordL (by walk_at "look") fun x dx r0 H' n g0 => ?_))
local macro_rules | `(tactic| walk_at "use") => `(tactic| (with_reducible refine use_HelperL (by walk_at "look") (by walk_at "look") fun x dx r0 r1 H' n g0 g1 => ?_))
local macro_rules | `(tactic| walk_at "use") => `(tactic| (with_reducible refine use_ProgramL (by walk_at "look") (by walk_at "look") fun x dx r0 r1 H' n g0 g1 => ?_))
local macro_rules | `(tactic| walk_at "use") => `(tactic| (with_reducible refine use_Head fun x dx H' n => ?_))
local macro_rules | `(tactic| walk_at "use") => `(tactic| (with_reducible refine use_Block fun x dx r o H' ow sm => ?_))
local macro_rules | `(tactic| walk_at "use") => `(tactic| (with_reducible refine use_Reader fun x dx r h b H' ow sm => ?_))
/-! ### heads -/
theorem parsF_none {rs : List Str} {acc : List Dt} (hne : rs ≠ []) (e : parF rs = none) : parsF rs acc = none := by
  rw [parsF.eq_def, if_neg hne]
  split
  · rfl
  · rename_i d r h
    rw [e] at h
    cases h
theorem parsF_some {rs r : List Str} {d : Dt} {acc : List Dt} (hne : rs ≠ []) (e : parF rs = some (d, r)) : parsF rs acc = if acc.length = 6 then none else parsF r (acc ++ [d]) := by
  rw [parsF.eq_def, if_neg hne]
  split
  · rename_i h
    rw [e] at h
    cases h
  · rename_i d2 r2 h
    rw [e] at h
    cases h
    rfl
theorem parsF_nil (acc : List Dt) : parsF [] acc = some acc := by rw [parsF.eq_def, if_pos rfl]
theorem how_ne2 : (wS "num" ≠ wS "look" ∧ wS "num" ≠ wS "hand") ∧ (wS "box" ≠ wS "look" ∧ wS "box" ≠ wS "hand") := by decide +kernel
theorem parF_tup {ws r : List Str} {d : Dt} (h : parF ws = some (d, r)) : ∃ x y z, d = .tup [.str x, .str y, .str z] ∧ r = ws.drop (if isLend x then 3 else 2) := by
  unfold parF at h
  split at h
  · rename_i w r0
    split at h
    · rename_i hk
      split at h
      · split at h
        · cases h
          exact ⟨_, _, _, rfl, by rw [if_pos hk]; rfl⟩
        · cases h
      · cases h
    · rename_i hk
      split at h
      · rename_i k r1
        split at h
        · cases h
          refine ⟨_, _, _, rfl, ?_⟩
          rw [if_neg]
          · rfl
          · split
            · exact fun e => e.elim how_ne2.1.1 how_ne2.1.2
            · exact fun e => e.elim how_ne2.2.1 how_ne2.2.2
        · cases h
      · cases h
  · cases h
section
variable {P : Program} {w : World} {K : PySem.W.Frag} {mg : Str → Option Value} {base : Heap}
def hdW (H : Hp) (a lp : Addr) (gv : V) (F : Option (List Dt)) (m : Nat) (σ : L2.St) (Hx : Hp) : Prop := ∃ (q : Addr) (rs : List Str) (acc : List Dt) (vp : List V) (v4 : Option V), m = rs.length ∧ σ = [some (.ref a), some (.ref q), some gv, some (.ref lp), v4] ∧ Same H Hx ∧ Hx q = some (.lst (rs.map V.str)) ∧ q ≠ lp ∧ rs.length ≤ 100000 ∧ (∀ w ∈ rs, w.length ≤ 100000) ∧ Hx lp = some (.lst vp) ∧ IsDs Hx acc vp ∧ vp.length ≤ 6 ∧ parsF rs acc = F
def spHeadBy (T : Tx K mg) : Sp := fun vs H Q _ => ∃ (a : Addr) (ws : List Str), vs = [.ref a] ∧ WAt H a ws ∧ (∀ n ps g H' hp dh lp gv vp, headF ws = some (n, ps, g) → Own H H' [(hp, .ins T.a_Head dh (fsHead (.str n) (.ref lp) gv)), (lp, .lst vp)] → IsDs H' ps vp → IsD H' (optD g) gv → Same H H' → Q (.ref hp) H') ∧ ∀ H', headF ws = none → Same H H' → Q .non H'
theorem ok_head_by (T : Tx K mg) : FnOk P w K mg base CX0 4 T.f_head_by T.d_head_by ["words"] (spHeadBy T) := by
  refine T.F_head_by.ok sc_head_by (fun vs H Q E h => ?_) (fun cdv A outer s H vs Q E hr h => ?_)
  · obtain ⟨a, ws, rfl, _⟩ := h
    rfl
  · obtain ⟨a, ws, rfl, ⟨ha, hl, hw⟩, q1, q0⟩ := h
    refine ⟨_, (pss_cons (ps_set (i := 1) sc_head_by.nd rfl (Or.inl rfl) (pe_slice (sl_listK (K := K) rfl) (pv 0) (po_some pe_int) po_none))
      (pss_cons (ps_set (i := 2) sc_head_by.nd rfl (Or.inl rfl) pe_non)
      (pss_cons (ps_if (PW.pt (pw_or (pt_cmpR op_lt (pe_callB (len_seqK (K := K) rfl) (by rfl) T.n_len PySem.boot_len (pa_cons (pv 0) pa_nil)) pe_int (nomark _)) (pw_or1 (pt_not (pt_val (pe_call (ok_is_name T) (hr.mono (by omega)) rfl T.m_is_name T.F_is_name.kp T.B_is_name .nil pass0 (pa_cons (pe_ix (ix_listK (K := K) rfl) (pv 0) pe_int (fun _ _ => rfl)) pa_nil)))))))
        (pss_one (ps_ret pe_non))
        pss_nil)
      (pss_cons (ps_if (PW.pt (pw_and (pt_cmpR op_gt (pe_callB (len_seqK (K := K) rfl) (by rfl) T.n_len PySem.boot_len (pa_cons (pv 1) pa_nil)) pe_int (nomark _)) (pw_and1 (pt_cmpR op_eq (pe_ix (ix_listK (K := K) rfl) (pv 1) (pe_un un_neg pe_int) (fun _ _ => rfl)) pe_str (nomark _)))))
        (pss_cons (ps_set (i := 2) sc_head_by.nd rfl (Or.inl rfl) (pe_ix (ix_listK (K := K) rfl) (pv 1) (pe_un un_neg pe_int) (fun _ _ => rfl)))
        (pss_cons (ps_set (i := 1) sc_head_by.nd rfl (Or.inl rfl) (pe_slice (sl_listK (K := K) rfl) (pv 1) po_none (po_some (pe_un un_neg pe_int))))
        (pss_one (ps_if (pt_not (pt_val (pe_call (ok_is_kind T) (hr.mono (by omega)) rfl T.m_is_kind T.F_is_kind.kp T.B_is_kind .nil pass0 (pa_cons (pv 2) pa_nil))))
          (pss_one (ps_ret pe_non))
          pss_nil))))
        pss_nil)
      (pss_cons (ps_set (i := 3) sc_head_by.nd rfl (Or.inl rfl) (pe_lst pa_nil))
      (pss_cons (ps_while PassesOwn.never (pt_cmpR (op_neNil hr.units) (pv 1) (pe_lst pa_nil) (nomark _))
        (pss_cons (ps_set (i := 4) sc_head_by.nd rfl (Or.inl rfl) (pe_call (ok_param_by T) (hr.mono (by omega)) rfl T.m_param_by T.F_param_by.kp T.B_param_by .nil pass0 (pa_cons (pv 1) pa_nil)))
        (pss_cons (ps_if (PW.pt (pw_or (pt_cmp (pc_isN (pv 4))) (pw_or1 (pt_cmpR op_eq (pe_callB (len_seqK (K := K) rfl) (by rfl) T.n_len PySem.boot_len (pa_cons (pv 3) pa_nil)) (pe_globI rfl T.m_MOST_PARAMS) (nomark _)))))
          (pss_one (ps_ret pe_non))
          pss_nil)
        (pss_cons (ps_expr (pe_bm PySem.F.plainAttrs_list PySem.F.slot_list_append PySem.F.type_list_append mt_append (pv 3) (pa_cons (pv 4) pa_nil)))
        (pss_one (ps_set (i := 1) sc_head_by.nd rfl (Or.inl rfl) (pe_slice (sl_listK (K := K) rfl) (pv 1) (po_some (pe_op op_add pe_int (pe_callTy call_int1 (by rfl) T.n_int PyProof.Rows.boot_int (pa_cons (pe_cmpR (in_seqK (K := K) rfl) (pe_ix (ix_tupK (K := K) rfl) (pv 4) pe_int (fun _ _ => rfl)) (pe_tup (pa_cons pe_str (pa_cons pe_str pa_nil))) (by rfl)) pa_nil)))) po_none)))))))
      (pss_one (ps_ret (pe_make T.Mk_Head (ok_Head_init T) (hr.mono (by omega)) rfl T.c_Head T.B_Head_init .nil pass0 (pa_cons (pe_ix (ix_listK (K := K) rfl) (pv 0) pe_int (fun _ _ => rfl)) (pa_cons (pv 3) (pa_cons (pv 2) pa_nil)))))))))))), ?_⟩
    have hsz := sizeLine_eq
    match ws, ha, hl, hw, q1, q0 with
    | [], ha, hl, hw, q1, q0 =>
      walk_at "sy"
      exact q0 _ rfl (by walk_at "sm")
    | [x0], ha, hl, hw, q1, q0 =>
      walk_at "sy"
      exact q0 _ rfl (by walk_at "sm")
    | x0 :: x1 :: r, ha, hl, hw, q1, q0 =>
      have l1 := hw x1 (by simp)
      have a1 : atI (List.map V.str (x0 :: x1 :: r)) 1 = some (.str x1) := atI_nat (j := 1) rfl
      have eq : headF (x0 :: x1 :: r) = if nameOk x1 then (match lastTwo (wS "gives") r with
        | some g => if kindS g then (parsF (r.take (r.length - 2)) []).map fun ps => (x1, ps, some g) else none
        | none => (parsF r []).map fun ps => (x1, ps, none)) else none := rfl
      have wr : ∀ w ∈ r, w.length ≤ 100000 := fun w hm => hw w (List.mem_cons_of_mem _ (List.mem_cons_of_mem _ hm))
      have hrl : r.length ≤ 100000 := by simp only [List.length_cons] at hl; omega
      have hlen : ¬ (((List.map V.str (x0 :: x1 :: r)).length : Nat) : Int) < 2 := by simp only [List.length_map, List.length_cons]; omega
      by_cases hx1 : nameOk x1
      · rw [if_pos hx1] at eq
        walk_at "sy"
        rename_i p1 H1 n1 H2 s2
        have e1 : cutV (List.map V.str (x0 :: x1 :: r)) (some 2) none = r.map V.str := cut_from (ws := x0 :: x1 :: r) 2
        have n1 : New p1 (.lst (r.map V.str)) H H1 := e1 ▸ n1
        rw [e1, List.length_map]
        by_cases h1 : 1 < r.length
        · refine iteDT (by omega) ?_
          obtain ⟨k, hk⟩ : ∃ k, r[r.length - 2]? = some k := ⟨_, List.getElem?_eq_getElem (by omega)⟩
          obtain ⟨z, hz⟩ : ∃ k, r[r.length - 1]? = some k := ⟨_, List.getElem?_eq_getElem (by omega)⟩
          have b1 := at_last2 (by omega) hk
          have b2 := at_last1 (by omega) hz
          have lz := wr z (List.mem_of_getElem? hz)
          by_cases ht : k = Str.ofString "gives"
          · have el : lastTwo (wS "gives") r = some z := by unfold lastTwo; rw [if_pos ⟨h1, by rw [hk, ht]⟩, hz]
            rw [el] at eq
            by_cases hkz : kindS z
            · walk_at "sy"
              rename_i p3 H3 n3 H4 s4 lp H5 n5
              have e3 : cutV (List.map V.str r) none (some (-2)) = (r.take (r.length - 2)).map V.str := cut_last2 (by omega)
              have n3 : New p3 (.lst ((r.take (r.length - 2)).map V.str)) H2 H3 := e3 ▸ n3
              have ek : headF (x0 :: x1 :: r) = (parsF (r.take (r.length - 2)) []).map fun ps => (x1, ps, some z) := by rw [eq]; exact if_pos hkz
              have f5 : H lp = none := freeBack n5.free (by walk_at "sm")
              refine ⟨hdW H a lp (.str z) (parsF (r.take (r.length - 2)) []), ⟨_, p3, (r.take (r.length - 2)), [], [], none, rfl, rfl, by walk_at "sm", by walk_at "look", (n5.ne (by walk_at "look1")).symm, by (rw [List.length_take]; omega), by (exact fun w hm => wr w (List.mem_of_mem_take hm)), n5.at_, rfl, by simp, rfl⟩, ?_⟩
              rintro m σ Hx ⟨q, rs, acc, vp, v4, rfl, rfl, sx, hq, hne, hrl, hrw, hlp, hacc, hvp, hF⟩
              have hal := hacc.len
              walk_at "sy"
              rename_i p6 H6 n6
              have hq6 := n6.get hq
              have hlp6 := n6.get hlp
              have sx6 := sx.trans n6.same
              have hacc6 := hacc.keep n6.keep
              cases rs with
              | nil =>
                refine iteBF rfl ?_
                walk_at "sy"
                rename_i x7 d7 H7 n7
                rw [parsF_nil] at hF
                refine q1 x1 acc (some z) H7 x7 d7 lp (.str z) vp (by (rw [ek]); rw [← hF]; rfl) ?_ (hacc6.keep n7.keep) rfl (by walk_at "sm")
                refine ⟨by walk_at "sm", ?_, ?_, ?_⟩
                · intro e he
                  simp only [List.mem_cons, List.not_mem_nil, or_false] at he
                  rcases he with rfl | rfl
                  · exact n7.at_
                  · exact n7.get hlp6
                · have : x7 ≠ lp := n7.ne hlp6
                  simp [keys, this]
                · intro z hz
                  simp only [keys, List.map_cons, List.map_nil, List.mem_cons, List.not_mem_nil, or_false] at hz
                  rcases hz with rfl | rfl
                  · exact sx6.free n7.free
                  · exact f5
              | cons w0 rs =>
                refine iteBT rfl ?_
                refine ⟨fun σ' H' => ∃ m', m' < (w0 :: rs).length ∧ hdW H a lp (.str z) (parsF (r.take (r.length - 2)) []) m' σ' H', fun σ' H' h => h, ?_⟩
                walk_at "sy"
                refine ⟨q, w0 :: rs, rfl, ⟨hq6, hrl, hrw⟩, by simp, fun d r8 H8 v e8 s8 hv => ?_, fun H8 e8 s8 => ?_⟩
                · obtain ⟨x, y, z, rfl, er8⟩ := parF_tup e8
                  obtain ⟨pv, vs, rfl, hpv, _, _, rfl, e1, _, _, rfl, e2, _, _, rfl, e3, e4⟩ := hv
                  obtain rfl : _ = _ := e1
                  obtain rfl : _ = _ := e2
                  obtain rfl : _ = _ := e3
                  obtain rfl : _ = _ := e4
                  have hlp8 := s8 _ _ hlp6
                  have hq8 := s8 _ _ hq6
                  have hacc8 := hacc6.keep (Keep.of s8)
                  have less := parF_less e8
                  by_cases h6 : acc.length = 6
                  · walk_at "sy"
                    exact q0 _ (by (rw [ek]); rw [← hF, parsF_some (by simp) e8, if_pos h6]; rfl) (by walk_at "sm")
                  · walk_at "sy"
                    rename_i H9 c9 pt H10 nt p11 H11 n11
                    have ei : inV (V.str x) [V.str (Str.ofString "look"), V.str (Str.ofString "hand")] = decide (x ∈ [wS "look", wS "hand"]) := inV_strs x [wS "look", wS "hand"]
                    have e11 : cutV (List.map V.str (w0 :: rs)) (some (2 + if inV (V.str x) [V.str (Str.ofString "look"), V.str (Str.ofString "hand")] = true then 1 else 0)) none = r8.map V.str := by
                      rw [ei, er8]
                      by_cases hk : isLend x
                      · rw [if_pos (decide_eq_true (by simpa [isLend] using hk)), if_pos hk]
                        exact cut_from 3
                      · rw [if_neg (by simpa [isLend] using hk), if_neg hk]
                        exact cut_from 2
                    have n11 : New p11 (.lst (r8.map V.str)) H10 H11 := e11 ▸ n11
                    have s11 : Same H H11 := (c9.sameOwn (sx6.trans s8) f5).trans (nt.same.trans n11.same)
                    have k11 : Keep H8 H11 := c9.keepL.trans (Keep.of (nt.same.trans n11.same))
                    have l11 : H10 lp = some (.lst (vp ++ [.ref pv])) := nt.get c9.at_
                    have hnew : IsD H8 (.tup [.str x, .str y, .str z]) (.ref pv) := ⟨pv, _, rfl, hpv, _, _, rfl, rfl, _, _, rfl, rfl, _, _, rfl, rfl, rfl⟩
                    refine ⟨r8.length, less, p11, r8, acc ++ [.tup [.str x, .str y, .str z]], _, _, rfl, rfl, s11, n11.at_, n11.ne l11, by omega, fun w hm => hrw w (List.mem_of_mem_drop (er8 ▸ hm)), n11.get l11, IsDs.snoc (hnew.keep k11) (hacc8.keep k11), by simp only [List.length_append, List.length_singleton]; omega, ?_⟩
                    rw [← hF, parsF_some (by simp) e8, if_neg h6]
                · walk_at "sy"
                  exact q0 _ (by (rw [ek]); rw [← hF, parsF_none (by simp) e8]; rfl) (by walk_at "sm")
            · walk_at "sy"
              exact q0 _ (by rw [eq]; exact if_neg hkz) (by walk_at "sm")
          · have el : lastTwo (wS "gives") r = none := by unfold lastTwo; rw [if_neg fun h => ht (Option.some.inj (hk.symm.trans h.2))]
            rw [el] at eq
            have ek : headF (x0 :: x1 :: r) = (parsF r []).map fun ps => (x1, ps, none) := eq
            walk_at "sy"
            rename_i lp H5 n5
            have f5 : H lp = none := freeBack n5.free (by walk_at "sm")
            refine ⟨hdW H a lp .non (parsF r []), ⟨_, p1, r, [], [], none, rfl, rfl, by walk_at "sm", by walk_at "look", (n5.ne (by walk_at "look1")).symm, by (exact hrl), by (exact wr), n5.at_, rfl, by simp, rfl⟩, ?_⟩
            rintro m σ Hx ⟨q, rs, acc, vp, v4, rfl, rfl, sx, hq, hne, hrl, hrw, hlp, hacc, hvp, hF⟩
            have hal := hacc.len
            walk_at "sy"
            rename_i p6 H6 n6
            have hq6 := n6.get hq
            have hlp6 := n6.get hlp
            have sx6 := sx.trans n6.same
            have hacc6 := hacc.keep n6.keep
            cases rs with
            | nil =>
              refine iteBF rfl ?_
              walk_at "sy"
              rename_i x7 d7 H7 n7
              rw [parsF_nil] at hF
              refine q1 x1 acc none H7 x7 d7 lp .non vp (by (rw [ek]); rw [← hF]; rfl) ?_ (hacc6.keep n7.keep) rfl (by walk_at "sm")
              refine ⟨by walk_at "sm", ?_, ?_, ?_⟩
              · intro e he
                simp only [List.mem_cons, List.not_mem_nil, or_false] at he
                rcases he with rfl | rfl
                · exact n7.at_
                · exact n7.get hlp6
              · have : x7 ≠ lp := n7.ne hlp6
                simp [keys, this]
              · intro z hz
                simp only [keys, List.map_cons, List.map_nil, List.mem_cons, List.not_mem_nil, or_false] at hz
                rcases hz with rfl | rfl
                · exact sx6.free n7.free
                · exact f5
            | cons w0 rs =>
              refine iteBT rfl ?_
              refine ⟨fun σ' H' => ∃ m', m' < (w0 :: rs).length ∧ hdW H a lp .non (parsF r []) m' σ' H', fun σ' H' h => h, ?_⟩
              walk_at "sy"
              refine ⟨q, w0 :: rs, rfl, ⟨hq6, hrl, hrw⟩, by simp, fun d r8 H8 v e8 s8 hv => ?_, fun H8 e8 s8 => ?_⟩
              · obtain ⟨x, y, z, rfl, er8⟩ := parF_tup e8
                obtain ⟨pv, vs, rfl, hpv, _, _, rfl, e1, _, _, rfl, e2, _, _, rfl, e3, e4⟩ := hv
                obtain rfl : _ = _ := e1
                obtain rfl : _ = _ := e2
                obtain rfl : _ = _ := e3
                obtain rfl : _ = _ := e4
                have hlp8 := s8 _ _ hlp6
                have hq8 := s8 _ _ hq6
                have hacc8 := hacc6.keep (Keep.of s8)
                have less := parF_less e8
                by_cases h6 : acc.length = 6
                · walk_at "sy"
                  exact q0 _ (by (rw [ek]); rw [← hF, parsF_some (by simp) e8, if_pos h6]; rfl) (by walk_at "sm")
                · walk_at "sy"
                  rename_i H9 c9 pt H10 nt p11 H11 n11
                  have ei : inV (V.str x) [V.str (Str.ofString "look"), V.str (Str.ofString "hand")] = decide (x ∈ [wS "look", wS "hand"]) := inV_strs x [wS "look", wS "hand"]
                  have e11 : cutV (List.map V.str (w0 :: rs)) (some (2 + if inV (V.str x) [V.str (Str.ofString "look"), V.str (Str.ofString "hand")] = true then 1 else 0)) none = r8.map V.str := by
                    rw [ei, er8]
                    by_cases hk : isLend x
                    · rw [if_pos (decide_eq_true (by simpa [isLend] using hk)), if_pos hk]
                      exact cut_from 3
                    · rw [if_neg (by simpa [isLend] using hk), if_neg hk]
                      exact cut_from 2
                  have n11 : New p11 (.lst (r8.map V.str)) H10 H11 := e11 ▸ n11
                  have s11 : Same H H11 := (c9.sameOwn (sx6.trans s8) f5).trans (nt.same.trans n11.same)
                  have k11 : Keep H8 H11 := c9.keepL.trans (Keep.of (nt.same.trans n11.same))
                  have l11 : H10 lp = some (.lst (vp ++ [.ref pv])) := nt.get c9.at_
                  have hnew : IsD H8 (.tup [.str x, .str y, .str z]) (.ref pv) := ⟨pv, _, rfl, hpv, _, _, rfl, rfl, _, _, rfl, rfl, _, _, rfl, rfl, rfl⟩
                  refine ⟨r8.length, less, p11, r8, acc ++ [.tup [.str x, .str y, .str z]], _, _, rfl, rfl, s11, n11.at_, n11.ne l11, by omega, fun w hm => hrw w (List.mem_of_mem_drop (er8 ▸ hm)), n11.get l11, IsDs.snoc (hnew.keep k11) (hacc8.keep k11), by simp only [List.length_append, List.length_singleton]; omega, ?_⟩
                  rw [← hF, parsF_some (by simp) e8, if_neg h6]
              · walk_at "sy"
                exact q0 _ (by (rw [ek]); rw [← hF, parsF_none (by simp) e8]; rfl) (by walk_at "sm")
        · refine iteDF (by omega) ?_
          have el : lastTwo (wS "gives") r = none := by unfold lastTwo; rw [if_neg fun h => h1 h.1]
          rw [el] at eq
          have ek : headF (x0 :: x1 :: r) = (parsF r []).map fun ps => (x1, ps, none) := eq
          walk_at "sy"
          rename_i lp H5 n5
          have f5 : H lp = none := freeBack n5.free (by walk_at "sm")
          refine ⟨hdW H a lp .non (parsF r []), ⟨_, p1, r, [], [], none, rfl, rfl, by walk_at "sm", by walk_at "look", (n5.ne (by walk_at "look1")).symm, by (exact hrl), by (exact wr), n5.at_, rfl, by simp, rfl⟩, ?_⟩
          rintro m σ Hx ⟨q, rs, acc, vp, v4, rfl, rfl, sx, hq, hne, hrl, hrw, hlp, hacc, hvp, hF⟩
          have hal := hacc.len
          walk_at "sy"
          rename_i p6 H6 n6
          have hq6 := n6.get hq
          have hlp6 := n6.get hlp
          have sx6 := sx.trans n6.same
          have hacc6 := hacc.keep n6.keep
          cases rs with
          | nil =>
            refine iteBF rfl ?_
            walk_at "sy"
            rename_i x7 d7 H7 n7
            rw [parsF_nil] at hF
            refine q1 x1 acc none H7 x7 d7 lp .non vp (by (rw [ek]); rw [← hF]; rfl) ?_ (hacc6.keep n7.keep) rfl (by walk_at "sm")
            refine ⟨by walk_at "sm", ?_, ?_, ?_⟩
            · intro e he
              simp only [List.mem_cons, List.not_mem_nil, or_false] at he
              rcases he with rfl | rfl
              · exact n7.at_
              · exact n7.get hlp6
            · have : x7 ≠ lp := n7.ne hlp6
              simp [keys, this]
            · intro z hz
              simp only [keys, List.map_cons, List.map_nil, List.mem_cons, List.not_mem_nil, or_false] at hz
              rcases hz with rfl | rfl
              · exact sx6.free n7.free
              · exact f5
          | cons w0 rs =>
            refine iteBT rfl ?_
            refine ⟨fun σ' H' => ∃ m', m' < (w0 :: rs).length ∧ hdW H a lp .non (parsF r []) m' σ' H', fun σ' H' h => h, ?_⟩
            walk_at "sy"
            refine ⟨q, w0 :: rs, rfl, ⟨hq6, hrl, hrw⟩, by simp, fun d r8 H8 v e8 s8 hv => ?_, fun H8 e8 s8 => ?_⟩
            · obtain ⟨x, y, z, rfl, er8⟩ := parF_tup e8
              obtain ⟨pv, vs, rfl, hpv, _, _, rfl, e1, _, _, rfl, e2, _, _, rfl, e3, e4⟩ := hv
              obtain rfl : _ = _ := e1
              obtain rfl : _ = _ := e2
              obtain rfl : _ = _ := e3
              obtain rfl : _ = _ := e4
              have hlp8 := s8 _ _ hlp6
              have hq8 := s8 _ _ hq6
              have hacc8 := hacc6.keep (Keep.of s8)
              have less := parF_less e8
              by_cases h6 : acc.length = 6
              · walk_at "sy"
                exact q0 _ (by (rw [ek]); rw [← hF, parsF_some (by simp) e8, if_pos h6]; rfl) (by walk_at "sm")
              · walk_at "sy"
                rename_i H9 c9 pt H10 nt p11 H11 n11
                have ei : inV (V.str x) [V.str (Str.ofString "look"), V.str (Str.ofString "hand")] = decide (x ∈ [wS "look", wS "hand"]) := inV_strs x [wS "look", wS "hand"]
                have e11 : cutV (List.map V.str (w0 :: rs)) (some (2 + if inV (V.str x) [V.str (Str.ofString "look"), V.str (Str.ofString "hand")] = true then 1 else 0)) none = r8.map V.str := by
                  rw [ei, er8]
                  by_cases hk : isLend x
                  · rw [if_pos (decide_eq_true (by simpa [isLend] using hk)), if_pos hk]
                    exact cut_from 3
                  · rw [if_neg (by simpa [isLend] using hk), if_neg hk]
                    exact cut_from 2
                have n11 : New p11 (.lst (r8.map V.str)) H10 H11 := e11 ▸ n11
                have s11 : Same H H11 := (c9.sameOwn (sx6.trans s8) f5).trans (nt.same.trans n11.same)
                have k11 : Keep H8 H11 := c9.keepL.trans (Keep.of (nt.same.trans n11.same))
                have l11 : H10 lp = some (.lst (vp ++ [.ref pv])) := nt.get c9.at_
                have hnew : IsD H8 (.tup [.str x, .str y, .str z]) (.ref pv) := ⟨pv, _, rfl, hpv, _, _, rfl, rfl, _, _, rfl, rfl, _, _, rfl, rfl, rfl⟩
                refine ⟨r8.length, less, p11, r8, acc ++ [.tup [.str x, .str y, .str z]], _, _, rfl, rfl, s11, n11.at_, n11.ne l11, by omega, fun w hm => hrw w (List.mem_of_mem_drop (er8 ▸ hm)), n11.get l11, IsDs.snoc (hnew.keep k11) (hacc8.keep k11), by simp only [List.length_append, List.length_singleton]; omega, ?_⟩
                rw [← hF, parsF_some (by simp) e8, if_neg h6]
            · walk_at "sy"
              exact q0 _ (by (rw [ek]); rw [← hF, parsF_none (by simp) e8]; rfl) (by walk_at "sm")
      · walk_at "sy"
        exact q0 _ (by rw [eq, if_neg hx1]) (by walk_at "sm")
end
end
section

local macro_rules | `(tactic| walk_at "use") => `(tactic| (with_reducible refine w_chain ?_))
local macro_rules | `(tactic| walk_at "use") => `(tactic| ((with_reducible apply w_lenStr); (· omega)))
local macro_rules | `(tactic| walk_at "use") => `(tactic| (with_reducible refine w_iStr ?_))
local macro_rules | `(tactic| walk_at "use") => `(tactic| (with_reducible refine w_itS ?_))
local macro_rules | `(tactic| walk_at "use") => `(tactic| ((with_reducible refine w_GT ?_); intro a ha))
local macro_rules | `(tactic| walk_at "use") => `(tactic| ((with_reducible apply w_ninC); (· assumption)))
local macro_rules | `(tactic| walk_at "use") => `(tactic| ((with_reducible apply w_inC); (· assumption)))
local macro_rules | `(tactic| walk_at "use") => `(tactic| (with_reducible refine use_atomS (by assumption) (by assumption) fun H' s => ?_))
local macro_rules | `(tactic| walk_at "use") => `(tactic| (with_reducible refine use_atomN (by assumption) (by assumption) fun H' s => ?_))
local macro_rules | `(tactic| walk_at "use") => `(tactic| (with_reducible refine use_pathS (by assumption) (by assumption) fun H' l s hl => ?_))
local macro_rules | `(tactic| walk_at "use") => `(tactic| (with_reducible refine use_pathN (by assumption) (by assumption) fun H' s => ?_))
local macro_rules | `(tactic| walk_at "use") => `(tactic| (with_reducible refine use_name (by assumption) fun H' s => ?_))
local macro_rules | `(tactic| walk_at "use") => `(tactic| (with_reducible refine use_kind (by assumption) fun H' s => ?_))
local macro_rules | `(tactic| walk_at "use") => `(tactic| (with_reducible refine w_nnT ?_))
local macro_rules | `(tactic| walk_at "use") => `(tactic| (with_reducible refine w_nnF ?_))
local macro_rules | `(tactic| walk_at "use") => `(tactic| (with_reducible refine iteDT (by assumption) ?_))
local macro_rules | `(tactic| walk_at "use") => `(tactic| (with_reducible refine iteDF (by assumption) ?_))
local macro_rules | `(tactic| walk_at "use") => `(tactic| (with_reducible refine w_ndT (by assumption) ?_))
local macro_rules | `(tactic| walk_at "use") => `(tactic| (with_reducible refine w_ndF (by assumption) ?_))
local macro_rules | `(tactic| walk_at "use") => `(tactic| first
  | with_reducible refine w_fldaug ?_
  | ((with_reducible apply w_fldaug1); (· walk_at "look"); (· assumption); (· assumption); (· exact rfl))
  | ((with_reducible apply w_fldaug2); (· walk_at "look"); (· first | exact (by decide : 5 < 1000) | exact (by decide)); intro H' c)
  | with_reducible refine w_ipI ?_
  | with_reducible refine w_radd ?_
  | ((with_reducible apply w_eqNil); (· walk_at "look"); (· walk_at "look"))
  | ((with_reducible apply w_neNil); (· walk_at "look"); (· walk_at "look"))
  | ((with_reducible apply w_pop); (· walk_at "look"); (· first | assumption | exact rfl); intro H' c)
  | with_reducible refine w_iEnum ?_
  | ((with_reducible apply w_iEnum1); (· walk_at "look"))
  | with_reducible refine w_sl2 ?_
  | ((with_reducible apply w_slE); (· walk_at "look"); intro p H' n)
  | with_reducible refine w_rng3 ?_)
local macro_rules | `(tactic| walk_at "use") => `(tactic| (with_reducible refine use_IfRowL (by walk_at "look") (by walk_at "look") fun x dx r0 r1 H' n g0 g1 => ?_))
local macro_rules | `(tactic| walk_at "use") => `(tactic| (with_reducible refine use_WhileRowL (by walk_at "look") fun x dx r0 H' n g0 => ?_))
local macro_rules | `(tactic| walk_at "use") => `(tactic| (with_reducible refine use_RecordL (by walk_at "look") fun x dx r0 H' n g0 => ?_))
local macro_rules | `(tactic| walk_at "use") => `(tactic| (with_reducible refine use_HelperL (by walk_at "look") (by walk_at "look") fun x dx r0 r1 H' n g0 g1 => ?_))
local macro_rules | `(tactic| walk_at "use") => `(tactic| (with_reducible refine use_ProgramL (by walk_at "look") (by walk_at "look") fun x dx r0 r1 H' n g0 g1 => ?_))
local macro_rules | `(tactic| walk_at "use") => `(tactic| (with_reducible refine use_Head fun x dx H' n => ?_))
local macro_rules | `(tactic| walk_at "use") => `(tactic| (with_reducible refine use_Block fun x dx r o H' ow sm => ?_))
local macro_rules | `(tactic| walk_at "use") => `(tactic| (with_reducible refine use_Reader fun x dx r h b H' ow sm => ?_))
section
variable {P : Program} {w : World} {K : PySem.W.Frag} {mg : Str → Option Value} {base : Heap}
theorem rowF_c (w x : Str) (r : List Str) : rowF (w :: x :: r) = if w = wS "fill" ∨ w = wS "put" then intoF (w :: x :: r)
    else if r = [] ∧ w ≠ wS "call" then singleF (w :: x :: r)
    else if nameOk x then
      (if w = wS "set" then setF (w :: x :: r) else if w = wS "make" then makeF (w :: x :: r) else if w = wS "call" then callF (w :: x :: r) else pairF (w :: x :: r))
    else none := rfl
theorem ok_row_by (T : Tx K mg) : FnOk P w K mg base CX0 6 T.f_row_by T.d_row_by ["words"] (spW T (fun _ => True) rowF) := by
  refine T.F_row_by.ok sc_row_by (fun vs H Q E h => ?_) (fun cdv A outer s H vs Q E hr h => ?_)
  · obtain ⟨a, ws, rfl, _⟩ := h
    rfl
  · obtain ⟨a, ws, rfl, ⟨ha, hl, hw⟩, hn, q1, q0⟩ := h
    refine ⟨_, (pss_cons (ps_if (pt_cmpR op_lt (pe_callB (len_seqK (K := K) rfl) (by rfl) T.n_len PySem.boot_len (pa_cons (pv 0) pa_nil)) pe_int (nomark _))
        (pss_one (ps_ret pe_non))
        pss_nil)
      (pss_cons (ps_if (pt_cmpR (in_seqK (K := K) rfl) (pe_ix (ix_listK (K := K) rfl) (pv 0) pe_int (fun _ _ => rfl)) (pe_tup (pa_cons pe_str (pa_cons pe_str pa_nil))) (by rfl))
        (pss_one (ps_ret (pe_call (ok_into_row_of T) (hr.mono (by omega)) rfl T.m_into_row_of T.F_into_row_of.kp T.B_into_row_of .nil pass0 (pa_cons (pv 0) pa_nil))))
        pss_nil)
      (pss_cons (ps_if (PW.pt (pw_and (pt_cmpR op_eq (pe_callB (len_seqK (K := K) rfl) (by rfl) T.n_len PySem.boot_len (pa_cons (pv 0) pa_nil)) pe_int (nomark _)) (pw_and1 (pt_cmpR op_ne (pe_ix (ix_listK (K := K) rfl) (pv 0) pe_int (fun _ _ => rfl)) pe_str (nomark _)))))
        (pss_one (ps_ret (pe_call (ok_single_row_of T) (hr.mono (by omega)) rfl T.m_single_row_of T.F_single_row_of.kp T.B_single_row_of .nil pass0 (pa_cons (pv 0) pa_nil))))
        pss_nil)
      (pss_cons (ps_if (pt_not (pt_val (pe_call (ok_is_name T) (hr.mono (by omega)) rfl T.m_is_name T.F_is_name.kp T.B_is_name .nil pass0 (pa_cons (pe_ix (ix_listK (K := K) rfl) (pv 0) pe_int (fun _ _ => rfl)) pa_nil))))
        (pss_one (ps_ret pe_non))
        pss_nil)
      (pss_cons (ps_if (pt_cmpR op_eq (pe_ix (ix_listK (K := K) rfl) (pv 0) pe_int (fun _ _ => rfl)) pe_str (nomark _))
        (pss_one (ps_ret (pe_call (ok_set_of T) (hr.mono (by omega)) rfl T.m_set_of T.F_set_of.kp T.B_set_of .nil pass0 (pa_cons (pv 0) pa_nil))))
        pss_nil)
      (pss_cons (ps_if (pt_cmpR op_eq (pe_ix (ix_listK (K := K) rfl) (pv 0) pe_int (fun _ _ => rfl)) pe_str (nomark _))
        (pss_one (ps_ret (pe_call (ok_make_of T) (hr.mono (by omega)) rfl T.m_make_of T.F_make_of.kp T.B_make_of .nil pass0 (pa_cons (pv 0) pa_nil))))
        pss_nil)
      (pss_cons (ps_if (pt_cmpR op_eq (pe_ix (ix_listK (K := K) rfl) (pv 0) pe_int (fun _ _ => rfl)) pe_str (nomark _))
        (pss_one (ps_ret (pe_call (ok_call_of T) (hr.mono (by omega)) rfl T.m_call_of T.F_call_of.kp T.B_call_of .nil pass0 (pa_cons (pv 0) pa_nil))))
        pss_nil)
      (pss_one (ps_ret (pe_ifExp (pt_cmpR op_eq (pe_callB (len_seqK (K := K) rfl) (by rfl) T.n_len PySem.boot_len (pa_cons (pv 0) pa_nil)) pe_int (nomark _)) (pe_call (ok_pair_row_of T) (hr.mono (by omega)) rfl T.m_pair_row_of T.F_pair_row_of.kp T.B_pair_row_of .nil pass0 (pa_cons (pv 0) pa_nil)) pe_non)))))))))), ?_⟩
    have hsz := sizeLine_eq
    match ws, ha, hl, hw, q1, q0 with
    | [], ha, hl, hw, q1, q0 =>
      walk_at "sy"
      exact q0 _ rfl (by walk_at "sm")
    | [x0], ha, hl, hw, q1, q0 =>
      walk_at "sy"
      exact q0 _ rfl (by walk_at "sm")
    | x0 :: x1 :: r, ha, hl, hw, q1, q0 =>
      have l1 := hw x1 (by simp)
      have a0 : atI (List.map V.str (x0 :: x1 :: r)) 0 = some (.str x0) := atI_nat (j := 0) rfl
      have a1 : atI (List.map V.str (x0 :: x1 :: r)) 1 = some (.str x1) := atI_nat (j := 1) rfl
      have hlen : ¬ (((List.map V.str (x0 :: x1 :: r)).length : Nat) : Int) < 2 := by simp only [List.length_map, List.length_cons]; omega
      walk_at "sy"
      rename_i pt Ht nt
      have ei : inV (V.str x0) [V.str (Str.ofString "fill"), V.str (Str.ofString "put")] = decide (x0 ∈ [wS "fill", wS "put"]) := inV_strs x0 [wS "fill", wS "put"]
      rw [ei]
      by_cases hk : x0 = wS "fill" ∨ x0 = wS "put"
      · refine iteDT (by simpa using hk) ?_
        walk_at "sy"
        exact ⟨a, _, rfl, ⟨by walk_at "look", hl, hw⟩, (by simp), fun r' H' v e s hv => q1 r' H' v (by rw [rowF_c]; rw [if_pos hk]; exact e) (Same.trans (by walk_at "sm") s) hv, fun H' e s => q0 H' (by rw [rowF_c]; rw [if_pos hk]; exact e) (Same.trans (by walk_at "sm") s)⟩
      · refine iteDF (by simpa using hk) ?_
        cases r with
        | nil =>
          by_cases hc : x0 = wS "call"
          · by_cases hx : nameOk x1
            · have n1 : ¬ x0 = wS "set" := by rw [hc]; decide +kernel
              have n2 : ¬ x0 = wS "make" := by rw [hc]; decide +kernel
              walk_at "sy"
              exact ⟨a, _, rfl, ⟨by walk_at "look", hl, hw⟩, (by simp), fun r' H' v e s hv => q1 r' H' v (by rw [rowF_c]; rw [if_neg hk, if_neg (fun h => h.2 hc), if_pos hx, if_neg n1, if_neg n2, if_pos hc]; exact e) (Same.trans (by walk_at "sm") s) hv, fun H' e s => q0 H' (by rw [rowF_c]; rw [if_neg hk, if_neg (fun h => h.2 hc), if_pos hx, if_neg n1, if_neg n2, if_pos hc]; exact e) (Same.trans (by walk_at "sm") s)⟩
            · walk_at "sy"
              exact q0 _ (by rw [rowF_c, if_neg hk, if_neg (fun h => h.2 hc), if_neg hx]) (by walk_at "sm")
          · walk_at "sy"
            exact ⟨a, _, rfl, ⟨by walk_at "look", hl, hw⟩, ⟨_, _, rfl⟩, fun r' H' v e s hv => q1 r' H' v (by rw [rowF_c]; rw [if_neg hk, if_pos ⟨rfl, hc⟩]; exact e) (Same.trans (by walk_at "sm") s) hv, fun H' e s => q0 H' (by rw [rowF_c]; rw [if_neg hk, if_pos ⟨rfl, hc⟩]; exact e) (Same.trans (by walk_at "sm") s)⟩
        | cons x2 r =>
          have hlen2 : ¬ (((List.map V.str (x0 :: x1 :: x2 :: r)).length : Nat) : Int) = 2 := by simp only [List.length_map, List.length_cons]; omega
          by_cases hx : nameOk x1
          · by_cases n1 : x0 = wS "set"
            · walk_at "sy"
              exact ⟨a, _, rfl, ⟨by walk_at "look", hl, hw⟩, (by simp), fun r' H' v e s hv => q1 r' H' v (by rw [rowF_c]; rw [if_neg hk, if_neg (fun h => by cases h.1), if_pos hx, if_pos n1]; exact e) (Same.trans (by walk_at "sm") s) hv, fun H' e s => q0 H' (by rw [rowF_c]; rw [if_neg hk, if_neg (fun h => by cases h.1), if_pos hx, if_pos n1]; exact e) (Same.trans (by walk_at "sm") s)⟩
            · by_cases n2 : x0 = wS "make"
              · walk_at "sy"
                exact ⟨a, _, rfl, ⟨by walk_at "look", hl, hw⟩, (by simp), fun r' H' v e s hv => q1 r' H' v (by rw [rowF_c]; rw [if_neg hk, if_neg (fun h => by cases h.1), if_pos hx, if_neg n1, if_pos n2]; exact e) (Same.trans (by walk_at "sm") s) hv, fun H' e s => q0 H' (by rw [rowF_c]; rw [if_neg hk, if_neg (fun h => by cases h.1), if_pos hx, if_neg n1, if_pos n2]; exact e) (Same.trans (by walk_at "sm") s)⟩
              · by_cases n3 : x0 = wS "call"
                · walk_at "sy"
                  exact ⟨a, _, rfl, ⟨by walk_at "look", hl, hw⟩, (by simp), fun r' H' v e s hv => q1 r' H' v (by rw [rowF_c]; rw [if_neg hk, if_neg (fun h => by cases h.1), if_pos hx, if_neg n1, if_neg n2, if_pos n3]; exact e) (Same.trans (by walk_at "sm") s) hv, fun H' e s => q0 H' (by rw [rowF_c]; rw [if_neg hk, if_neg (fun h => by cases h.1), if_pos hx, if_neg n1, if_neg n2, if_pos n3]; exact e) (Same.trans (by walk_at "sm") s)⟩
                · cases r with
                  | nil =>
                    walk_at "sy"
                    exact ⟨a, _, rfl, ⟨by walk_at "look", hl, hw⟩, ⟨_, _, _, rfl⟩, fun r' H' v e s hv => q1 r' H' v (by rw [rowF_c]; rw [if_neg hk, if_neg (fun h => by cases h.1), if_pos hx, if_neg n1, if_neg n2, if_neg n3]; exact e) (Same.trans (by walk_at "sm") s) hv, fun H' e s => q0 H' (by rw [rowF_c]; rw [if_neg hk, if_neg (fun h => by cases h.1), if_pos hx, if_neg n1, if_neg n2, if_neg n3]; exact e) (Same.trans (by walk_at "sm") s)⟩
                  | cons x3 r =>
                    have hlen3 : ¬ (((List.map V.str (x0 :: x1 :: x2 :: x3 :: r)).length : Nat) : Int) = 3 := by simp only [List.length_map, List.length_cons]; omega
                    walk_at "sy"
                    exact q0 _ (by rw [rowF_c, if_neg hk, if_neg (fun h => by cases h.1), if_pos hx, if_neg n1, if_neg n2, if_neg n3]; rfl) (by walk_at "sm")
          · walk_at "sy"
            exact q0 _ (by rw [rowF_c, if_neg hk, if_neg (fun h => by cases h.1), if_neg hx]) (by walk_at "sm")
/-! ### rows that stand open -/
def spPut (T : Tx K mg) : Sp := fun vs H Q _ => ∃ (b d r o : Addr) (w a v : V) (y : Bool) (ur uo : List V), vs = [.ref b, v] ∧ H b = some (.ins T.a_Block d (fsBlock w a (.ref r) (.ref o) (.bl y))) ∧ H r = some (.lst ur) ∧ H o = some (.lst uo) ∧ ur.length ≤ 1000 ∧ uo.length ≤ 1000 ∧ (y = true → ∀ H', Chg o (.lst uo) (.lst (uo ++ [v])) H H' → Q .non H') ∧ (y = false → ∀ H', Chg r (.lst ur) (.lst (ur ++ [v])) H H' → Q .non H')
theorem ok_Block_put (T : Tx K mg) : FnOk P w K mg base CX0 1 T.f_Block_put T.d_Block_put ["self", "row"] (spPut T) := by
  refine T.F_Block_put.ok sc_Block_put (fun vs H Q E h => ?_) (fun cdv A outer s H vs Q E hr h => ?_)
  · obtain ⟨b, d, r, o, w, a, v, y, ur, uo, rfl, _⟩ := h
    rfl
  · obtain ⟨b, d, r, o, w, a, v, y, ur, uo, rfl, hb, hr', ho, l1, l2, q1, q2⟩ := h
    refine ⟨_, (pss_one (ps_if (pt_val (fldK (K := K) rfl (pv 0) rfl))
        (pss_one (ps_expr (pe_bm PySem.F.plainAttrs_list PySem.F.slot_list_append PySem.F.type_list_append mt_append (fldK (K := K) rfl (pv 0) rfl) (pa_cons (pv 1) pa_nil))))
        (pss_one (ps_expr (pe_bm PySem.F.plainAttrs_list PySem.F.slot_list_append PySem.F.type_list_append mt_append (fldK (K := K) rfl (pv 0) rfl) (pa_cons (pv 1) pa_nil)))))), ?_⟩
    have hsz := sizeLine_eq
    have ccl := T.cl_Block
    have na2 := T.na_Block_rows
    have na3 := T.na_Block_others
    have na4 := T.na_Block_beyond
    cases y with
    | true =>
      walk_at "sy"
      exact q1 rfl _ (by assumption)
    | false =>
      walk_at "sy"
      exact q2 rfl _ (by assumption)
end
end
section

local macro_rules | `(tactic| walk_at "use") => `(tactic| (with_reducible refine w_chain ?_))
local macro_rules | `(tactic| walk_at "use") => `(tactic| ((with_reducible apply w_lenStr); (· omega)))
local macro_rules | `(tactic| walk_at "use") => `(tactic| (with_reducible refine w_iStr ?_))
local macro_rules | `(tactic| walk_at "use") => `(tactic| (with_reducible refine w_itS ?_))
local macro_rules | `(tactic| walk_at "use") => `(tactic| ((with_reducible refine w_GT ?_); intro a ha))
local macro_rules | `(tactic| walk_at "use") => `(tactic| ((with_reducible apply w_ninC); (· assumption)))
local macro_rules | `(tactic| walk_at "use") => `(tactic| ((with_reducible apply w_inC); (· assumption)))
local macro_rules | `(tactic| walk_at "use") => `(tactic| (with_reducible refine use_atomS (by assumption) (by assumption) fun H' s => ?_))
local macro_rules | `(tactic| walk_at "use") => `(tactic| (with_reducible refine use_atomN (by assumption) (by assumption) fun H' s => ?_))
local macro_rules | `(tactic| walk_at "use") => `(tactic| (with_reducible refine use_pathS (by assumption) (by assumption) fun H' l s hl => ?_))
local macro_rules | `(tactic| walk_at "use") => `(tactic| (with_reducible refine use_pathN (by assumption) (by assumption) fun H' s => ?_))
local macro_rules | `(tactic| walk_at "use") => `(tactic| (with_reducible refine use_name (by assumption) fun H' s => ?_))
local macro_rules | `(tactic| walk_at "use") => `(tactic| (with_reducible refine use_kind (by assumption) fun H' s => ?_))
local macro_rules | `(tactic| walk_at "use") => `(tactic| (with_reducible refine w_nnT ?_))
local macro_rules | `(tactic| walk_at "use") => `(tactic| (with_reducible refine w_nnF ?_))
local macro_rules | `(tactic| walk_at "use") => `(tactic| (with_reducible refine iteDT (by assumption) ?_))
local macro_rules | `(tactic| walk_at "use") => `(tactic| (with_reducible refine iteDF (by assumption) ?_))
local macro_rules | `(tactic| walk_at "use") => `(tactic| (with_reducible refine w_ndT (by assumption) ?_))
local macro_rules | `(tactic| walk_at "use") => `(tactic| (with_reducible refine w_ndF (by assumption) ?_))
local macro_rules | `(tactic| walk_at "use") => `(tactic| first
  | with_reducible refine w_fldaug ?_
  | ((with_reducible apply w_fldaug1); (· walk_at "look"); (· assumption); (· assumption); (· exact rfl))
  | ((with_reducible apply w_fldaug2); (· walk_at "look"); (· first | exact (by decide : 5 < 1000) | exact (by decide)); intro H' c)
  | with_reducible refine w_ipI ?_
  | with_reducible refine w_radd ?_
  | ((with_reducible apply w_eqNil); (· walk_at "look"); (· walk_at "look"))
  | ((with_reducible apply w_neNil); (· walk_at "look"); (· walk_at "look"))
  | ((with_reducible apply w_pop); (· walk_at "look"); (· first | assumption | exact rfl); intro H' c)
  | with_reducible refine w_iEnum ?_
  | ((with_reducible apply w_iEnum1); (· walk_at "look"))
  | with_reducible refine w_sl2 ?_
  | ((with_reducible apply w_slE); (· walk_at "look"); intro p H' n)
  | with_reducible refine w_rng3 ?_)
local macro_rules | `(tactic| walk_at "use") => `(tactic| (with_reducible refine use_IfRowL (by walk_at "look") (by walk_at "look") fun x dx r0 r1 H' n g0 g1 => ?_))
local macro_rules | `(tactic| walk_at "use") => `(tactic| (with_reducible refine use_WhileRowL (by walk_at "look") fun x dx r0 H' n g0 => ?_))
local macro_rules | `(tactic| walk_at "use") => `(tactic| (with_reducible refine use_RecordL (by walk_at "look") fun x dx r0 H' n g0 => ?_))
local macro_rules | `(tactic| walk_at "use") => `(tactic| (with_reducible refine use_HelperL (by walk_at "look") (by walk_at "look") fun x dx r0 r1 H' n g0 g1 => ?_))
local macro_rules | `(tactic| walk_at "use") => `(tactic| (with_reducible refine use_ProgramL (by walk_at "look") (by walk_at "look") fun x dx r0 r1 H' n g0 g1 => ?_))
local macro_rules | `(tactic| walk_at "use") => `(tactic| (with_reducible refine use_Head fun x dx H' n => ?_))
local macro_rules | `(tactic| walk_at "use") => `(tactic| (with_reducible refine use_Block fun x dx r o H' ow sm => ?_))
local macro_rules | `(tactic| walk_at "use") => `(tactic| (with_reducible refine use_Reader fun x dx r h b H' ow sm => ?_))
/-! ### the reader's deeds -/
section
variable {P : Program} {w : World} {K : PySem.W.Frag} {mg : Str → Option Value} {base : Heap}
theorem atI_snoc (xs : List V) (y : V) : atI (xs ++ [y]) (-1) = some y := by
  have e2 : ixN (xs ++ [y]).length (-1) = some xs.length := by
    unfold ixN
    rw [if_neg (by omega), if_pos (by rw [List.length_append, List.length_singleton]; omega)]
    exact congrArg some (by rw [List.length_append, List.length_singleton]; omega)
  unfold atI
  rw [e2]
  show (xs ++ [y])[xs.length]? = _
  simp
theorem bsL_cons (p : BP) (ps : List BP) : bsL (p :: ps) = bsL ps ++ [.ref p.b] := by simp [bsL]
def RdQ (T : Tx K mg) (H0 : Hp) (x : Addr) (o : Option RS) (Q : VK) : Prop := (∀ st' R' H', o = some st' → R'.x = x → RAt T H0 H' R' st' → Q (.bl true) H') ∧ ∀ H', o = none → Same H0 H' → Q (.bl false) H'
theorem RAt.rowsLe {T : Tx K mg} {H0 H : Hp} {R : RP} {st : RS} (M : RAt T H0 H R st) (o : RSok st) : (bsL R.bs).length ≤ 100 := by
  have := o.cnt
  have := o.pts
  rw [M.blen]
  omega
def spOpened (T : Tx K mg) : Sp := fun vs H Q _ => ∃ (H0 : Hp) (R : RP) (st : RS) (a : Addr) (ws : List Str), vs = [.ref R.x, .ref a] ∧ RAt T H0 H R st ∧ RSok st ∧ WAt H0 a ws ∧ 1 ≤ ws.length ∧ RdQ T H0 R.x (openF st ws) Q
theorem ok_Reader_opened (T : Tx K mg) : FnOk P w K mg base CX0 3 T.f_Reader_opened T.d_Reader_opened ["self", "words"] (spOpened T) := by
  refine T.F_Reader_opened.ok sc_Reader_opened (fun vs H Q E h => ?_) (fun cdv A outer s H vs Q E hr h => ?_)
  · obtain ⟨H0, R, st, a, ws, rfl, _⟩ := h
    rfl
  · obtain ⟨H0, R, st, a, ws, rfl, M, ok, ⟨ha, hl, hw⟩, hn, q1, q0⟩ := h
    refine ⟨_, (pss_cons (ps_if (PW.pt (pw_or (pt_cmpR op_ne (pe_callB (len_seqK (K := K) rfl) (by rfl) T.n_len PySem.boot_len (pa_cons (pv 1) pa_nil)) pe_int (nomark _)) (pw_or (pt_cmp (pc_isN (pe_call (ok_atom_of T) (hr.mono (by omega)) rfl T.m_atom_of T.F_atom_of.kp T.B_atom_of .nil pass0 (pa_cons (pe_ix (ix_listK (K := K) rfl) (pv 1) pe_int (fun _ _ => rfl)) pa_nil)))) (pw_or1 (pt_cmpR op_gt (pe_callB (len_seqK (K := K) rfl) (by rfl) T.n_len PySem.boot_len (pa_cons (fldK (K := K) rfl (pv 0) rfl) pa_nil)) (pe_globI rfl T.m_MOST_DEEP) (nomark _))))))
        (pss_one (ps_ret pe_bl))
        pss_nil)
      (pss_cons (ps_fldaug (pv 0) pe_int in_add)
      (pss_cons (ps_expr (pe_bm PySem.F.plainAttrs_list PySem.F.slot_list_append PySem.F.type_list_append mt_append (fldK (K := K) rfl (pv 0) rfl) (pa_cons (pe_make T.Mk_Block (ok_Block_init T) (hr.mono (by omega)) rfl T.c_Block T.B_Block_init .nil pass0 (pa_cons (pe_ix (ix_listK (K := K) rfl) (pv 1) pe_int (fun _ _ => rfl)) (pa_cons (pe_call (ok_atom_of T) (hr.mono (by omega)) rfl T.m_atom_of T.F_atom_of.kp T.B_atom_of .nil pass0 (pa_cons (pe_ix (ix_listK (K := K) rfl) (pv 1) pe_int (fun _ _ => rfl)) pa_nil)) pa_nil))) pa_nil)))
      (pss_one (ps_ret (pe_cmpR op_le (fldK (K := K) rfl (pv 0) rfl) (pe_globI rfl T.m_MOST_ROWS) (nomark _))))))), ?_⟩
    have hsz := sizeLine_eq
    have ccl := T.cl_Reader
    have nr0 := T.na_Reader_records
    have nr1 := T.na_Reader_helpers
    have nr2 := T.na_Reader_begun
    have nr3 := T.na_Reader_blocks
    have nr4 := T.na_Reader_points
    have bcl := T.cl_Block
    have nb0 := T.na_Block_word
    have nb1 := T.na_Block_atom
    have nb2 := T.na_Block_rows
    have nb3 := T.na_Block_others
    have nb4 := T.na_Block_beyond
    have ha := M.own.same _ _ ha
    have hx : H R.x = some (.ins T.a_Reader R.dx (fsReader (.ref R.lr) (.ref R.lh) (hV R.hd) (.ref R.lb) (.int (st.pts : Int)))) := M.x
    have hlb := M.lb
    have hbl := M.rowsLe ok
    have hbe := M.blen
    match ws, ha, hl, hw, hn, q1, q0 with
    | [], ha, hl, hw, hn, q1, q0 => simp at hn
    | [x0], ha, hl, hw, hn, q1, q0 =>
      walk_at "sy"
      exact q0 _ rfl M.own.same
    | x0 :: x1 :: x2 :: r, ha, hl, hw, hn, q1, q0 =>
      have hlen : ¬ (((List.map V.str (x0 :: x1 :: x2 :: r)).length : Nat) : Int) = 2 := by simp only [List.length_map, List.length_cons]; omega
      walk_at "sy"
      exact q0 _ rfl M.own.same
    | [x0, x1], ha, hl, hw, hn, q1, q0 =>
      have l1 := hw x1 (by simp)
      have eo : openF st [x0, x1] = (match atomF x1 with
        | some a => if st.blks.length ≤ 8 ∧ st.pts < 60 then some { st with pts := st.pts + 1, blks := ⟨x0, a, [], [], false⟩ :: st.blks } else none
        | none => none) := rfl
      cases e : atomF x1 with
      | none =>
        walk_at "sy"
        exact q0 _ (by rw [eo, e]) (M.own.same.trans (by walk_at "sm"))
      | some y =>
        rw [e] at eo
        by_cases h8 : st.blks.length ≤ 8
        · walk_at "sy"
          rename_i H1 s1 H2 c2 H3 s3 x' dx' r' o' H4 ow sm H5 c5
          have c2 : Chg R.x _ (rIns T R (st.pts + 1) R.lb (hV R.hd)) H1 H2 := c2
          have M4 := (((M.step s1).setPts c2).step s3).pushBlk (p := ⟨x', dx', r', o', [], []⟩) (k := ⟨x0, y, [], [], false⟩) ow c5 rfl rfl
          by_cases h60 : st.pts < 60
          · rw [decide_eq_true (by omega)]
            exact q1 _ _ _ (by rw [eo]; exact if_pos ⟨h8, h60⟩) (by rfl) M4
          · rw [decide_eq_false (by omega)]
            exact q0 _ (by rw [eo]; exact if_neg fun h => h60 h.2) M4.own.same
        · walk_at "sy"
          exact q0 _ (by rw [eo]; exact if_neg fun h => h8 h.1) (M.own.same.trans (by walk_at "sm"))
def spTurned (T : Tx K mg) : Sp := fun vs H Q _ => ∃ (H0 : Hp) (R : RP) (st : RS), vs = [.ref R.x] ∧ RAt T H0 H R st ∧ RSok st ∧ st.begun ≠ none ∧ RdQ T H0 R.x (turnF st) Q
theorem ok_Reader_turned (T : Tx K mg) : FnOk P w K mg base CX0 1 T.f_Reader_turned T.d_Reader_turned ["self"] (spTurned T) := by
  refine T.F_Reader_turned.ok sc_Reader_turned (fun vs H Q E h => ?_) (fun cdv A outer s H vs Q E hr h => ?_)
  · obtain ⟨H0, R, st, rfl, _⟩ := h
    rfl
  · obtain ⟨H0, R, st, rfl, M, ok, hb, q1, q0⟩ := h
    refine ⟨_, (pss_cons (ps_set (i := 1) sc_Reader_turned.nd rfl (Or.inl rfl) (pe_ix (ix_listK (K := K) rfl) (fldK (K := K) rfl (pv 0) rfl) (pe_un un_neg pe_int) (fun _ _ => rfl)))
      (pss_cons (ps_if (PW.pt (pw_or (pt_cmpR op_ne (fldK (K := K) rfl (pv 1) rfl) pe_str (nomark _)) (pw_or1 (pt_val (fldK (K := K) rfl (pv 1) rfl)))))
        (pss_one (ps_ret pe_bl))
        pss_nil)
      (pss_cons (ps_fld (pv 1) pe_bl rfl)
      (pss_one (ps_ret pe_bl))))), ?_⟩
    have hsz := sizeLine_eq
    have ccl := T.cl_Reader
    have nr0 := T.na_Reader_records
    have nr1 := T.na_Reader_helpers
    have nr2 := T.na_Reader_begun
    have nr3 := T.na_Reader_blocks
    have nr4 := T.na_Reader_points
    have bcl := T.cl_Block
    have nb0 := T.na_Block_word
    have nb1 := T.na_Block_atom
    have nb2 := T.na_Block_rows
    have nb3 := T.na_Block_others
    have nb4 := T.na_Block_beyond
    have hx : H R.x = some (.ins T.a_Reader R.dx (fsReader (.ref R.lr) (.ref R.lh) (hV R.hd) (.ref R.lb) (.int (st.pts : Int)))) := M.x
    have hlb := M.lb
    cases hs : st.blks with
    | nil =>
      obtain ⟨l, c, e, _⟩ := ok.bot hb
      rw [hs] at e
      simp at e
    | cons b bs =>
      obtain ⟨p, ps, hR, gb, gr, go, _⟩ := M.top hs
      have gb : H p.b = some (.ins T.a_Block p.d (fsBlock (.str b.w) (atV b.a) (.ref p.r) (.ref p.o) (.bl b.beyond))) := gb
      have at1 : atI (bsL R.bs) (-1) = some (.ref p.b) := by rw [hR, bsL_cons]; exact atI_snoc _ _
      have et : turnF st = if b.w = wS "if" ∧ b.beyond = false then some { st with blks := { b with beyond := true } :: bs } else none := by
        unfold turnF
        rw [hs]
      by_cases hw' : b.w = wS "if"
      · cases hy : b.beyond with
        | true =>
          walk_at "sy"
          exact q0 _ (by rw [et]; exact if_neg fun h => by rw [hy] at h; exact absurd h.2 (by simp)) M.own.same
        | false =>
          walk_at "sy"
          rename_i H1 c1
          have c1 : Chg p.b _ (bIns T p { b with beyond := true }) H H1 := c1
          exact q1 _ _ _ (by rw [et]; exact if_pos ⟨hw', hy⟩) (by rfl) (M.setB hs hR c1 rfl rfl)
      · walk_at "sy"
        exact q0 _ (by rw [et]; exact if_neg fun h => hw' h.1) M.own.same
def spShut (T : Tx K mg) : Sp := fun vs H Q _ => ∃ (H0 : Hp) (R : RP) (st : RS) (w : Str), vs = [.ref R.x, .str w] ∧ RAt T H0 H R st ∧ RSok st ∧ st.begun ≠ none ∧ (w = wS "if" ∨ w = wS "while") ∧ RdQ T H0 R.x (shutF w st) Q
theorem kw_help : wS "helper" ≠ wS "if" ∧ wS "helper" ≠ wS "while" ∧ wS "while" ≠ wS "if" := by decide +kernel
theorem bsL_last (p : BP) (ps : List BP) : (bsL (p :: ps))[(bsL (p :: ps)).length - 1]? = some (.ref p.b) := by rw [bsL_cons]; simp
theorem bsL_drop (p : BP) (ps : List BP) : (bsL (p :: ps)).dropLast = bsL ps := by rw [bsL_cons]; simp
theorem RSok.rows {st : RS} (o : RSok st) {b : Blk} (h : b ∈ st.blks) : b.rows.length ≤ 100 ∧ b.others.length ≤ 100 := by
  have h1 := o.cnt
  have h2 := o.pts
  have h3 : ∀ ks : List Blk, b ∈ ks → b.rows.length + b.others.length ≤ rows_ ks ∧ 1 ≤ ks.length := fun ks h => by
    unfold rows_
    induction ks with
    | nil => cases h
    | cons c r ih =>
      rw [List.map_cons, List.sum_cons, List.length_cons]
      rcases List.mem_cons.mp h with rfl | h
      · omega
      · have := ih h
        omega
  have := h3 _ h
  omega
theorem RAt.neLb {T : Tx K mg} {H0 H : Hp} {R : RP} {st : RS} (M : RAt T H0 H R st) {e : Addr × HO} (h : e ∈ hReg T R.hd st.begun ++ bsReg T R.bs st.blks) : e.1 ≠ R.lb := fun z => by
  have nd := M.own.nd
  unfold rReg rTop keys at nd
  simp only [List.cons_append, List.nil_append, List.map_cons, List.nodup_cons] at nd
  exact nd.2.2.2.1 (z ▸ List.mem_map_of_mem (f := (·.1)) h)
theorem ok_Reader_shut (T : Tx K mg) : FnOk P w K mg base CX0 3 T.f_Reader_shut T.d_Reader_shut ["self", "word"] (spShut T) := by
  refine T.F_Reader_shut.ok sc_Reader_shut (fun vs H Q E h => ?_) (fun cdv A outer s H vs Q E hr h => ?_)
  · obtain ⟨H0, R, st, w, rfl, _⟩ := h
    rfl
  · obtain ⟨H0, R, st, w, rfl, M, ok, hb, hw, q1, q0⟩ := h
    refine ⟨_, (pss_cons (ps_set (i := 2) sc_Reader_shut.nd rfl (Or.inl rfl) (pe_ix (ix_listK (K := K) rfl) (fldK (K := K) rfl (pv 0) rfl) (pe_un un_neg pe_int) (fun _ _ => rfl)))
      (pss_cons (ps_if (pt_cmpR op_ne (fldK (K := K) rfl (pv 2) rfl) (pv 1) (nomark _))
        (pss_one (ps_ret pe_bl))
        pss_nil)
      (pss_cons (ps_expr (pe_bm0 PySem.F.plainAttrs_list PySem.F.slot_list_pop PySem.F.type_list_pop mt_pop (fldK (K := K) rfl (pv 0) rfl)))
      (pss_cons (ps_if (pt_cmpR op_eq (pv 1) pe_str (nomark _))
        (pss_one (ps_expr (pe_meth (pe_ix (ix_listK (K := K) rfl) (fldK (K := K) rfl (pv 0) rfl) (pe_un un_neg pe_int) (fun _ _ => rfl)) T.cl_Block T.M_Block_put (ok_Block_put T) (hr.mono (by omega)) T.B_Block_put .nil pass0 (pa_cons (pe_make T.Mk_IfRow (ok_IfRow_initL T) (hr.mono (by omega)) rfl T.c_IfRow T.B_IfRow_init .nil pass0 (pa_cons (fldK (K := K) rfl (pv 2) rfl) (pa_cons (fldK (K := K) rfl (pv 2) rfl) (pa_cons (fldK (K := K) rfl (pv 2) rfl) pa_nil)))) pa_nil))))
        (pss_one (ps_expr (pe_meth (pe_ix (ix_listK (K := K) rfl) (fldK (K := K) rfl (pv 0) rfl) (pe_un un_neg pe_int) (fun _ _ => rfl)) T.cl_Block T.M_Block_put (ok_Block_put T) (hr.mono (by omega)) T.B_Block_put .nil pass0 (pa_cons (pe_make T.Mk_WhileRow (ok_WhileRow_initL T) (hr.mono (by omega)) rfl T.c_WhileRow T.B_WhileRow_init .nil pass0 (pa_cons (fldK (K := K) rfl (pv 2) rfl) (pa_cons (fldK (K := K) rfl (pv 2) rfl) pa_nil))) pa_nil)))))
      (pss_one (ps_ret pe_bl)))))), ?_⟩
    have hsz := sizeLine_eq
    have ccl := T.cl_Reader
    have nr0 := T.na_Reader_records
    have nr1 := T.na_Reader_helpers
    have nr2 := T.na_Reader_begun
    have nr3 := T.na_Reader_blocks
    have nr4 := T.na_Reader_points
    have bcl := T.cl_Block
    have nb0 := T.na_Block_word
    have nb1 := T.na_Block_atom
    have nb2 := T.na_Block_rows
    have nb3 := T.na_Block_others
    have nb4 := T.na_Block_beyond
    have hx : H R.x = some (.ins T.a_Reader R.dx (fsReader (.ref R.lr) (.ref R.lh) (hV R.hd) (.ref R.lb) (.int (st.pts : Int)))) := M.x
    have hlb := M.lb
    obtain ⟨l, z, ez, hz⟩ := ok.bot hb
    cases hs : st.blks with
    | nil =>
      rw [hs] at ez
      simp at ez
    | cons b bs =>
      obtain ⟨p, ps, hR, gb, gr, go, er, eo, bk⟩ := M.top hs
      have gb : H p.b = some (.ins T.a_Block p.d (fsBlock (.str b.w) (atV b.a) (.ref p.r) (.ref p.o) (.bl b.beyond))) := gb
      have at1 : atI (bsL R.bs) (-1) = some (.ref p.b) := by rw [hR, bsL_cons]; exact atI_snoc _ _
      have atl : (bsL R.bs)[(bsL R.bs).length - 1]? = some (.ref p.b) := by rw [hR]; exact bsL_last _ _
      have es : ∀ c r, bs = c :: r → shutF w st = if b.w = w then some { st with blks := c.put (b.made w) :: r } else none := fun c r e => by
        unfold shutF
        rw [hs, e]
      by_cases hw' : b.w = w
      · cases hbs : bs with
        | nil =>
          rw [hs, hbs] at ez
          cases l with
          | nil =>
            cases ez
            rw [hw'] at hz
            rcases hw with e | e
            · exact absurd (hz.symm.trans e) kw_help.1
            · exact absurd (hz.symm.trans e) kw_help.2.1
          | cons _ l => simp at ez
        | cons c cs =>
          have es := es c cs hbs
          rw [if_pos hw'] at es
          cases hps : ps with
          | nil => rw [hps, hbs] at bk; exact bk.elim
          | cons p2 ps2 =>
            have atd : atI (bsL R.bs).dropLast (-1) = some (.ref p2.b) := by rw [hR, bsL_drop, hps, bsL_cons]; exact atI_snoc _ _
            have mem : ∀ e ∈ bReg T p b ++ bReg T p2 c, e ∈ hReg T R.hd st.begun ++ bsReg T R.bs st.blks := fun e he => by
              rw [hs, hR, hbs, hps]
              refine List.mem_append_right _ ?_
              show e ∈ bReg T p b ++ (bReg T p2 c ++ bsReg T ps2 cs)
              rw [← List.append_assoc]
              exact List.mem_append_left _ he
            have gt : ∀ e ∈ bReg T p b ++ bReg T p2 c, H e.1 = some e.2 := fun e he => M.own.all e (List.mem_append_right _ (mem e he))
            have nt : ∀ e ∈ bReg T p b ++ bReg T p2 c, e.1 ≠ R.lb := fun e he => M.neLb (mem e he)
            have gb2 : H p2.b = some (.ins T.a_Block p2.d (fsBlock (.str c.w) (atV c.a) (.ref p2.r) (.ref p2.o) (.bl c.beyond))) := gt (p2.b, bIns T p2 c) (by simp [bReg])
            have gr2 : H p2.r = some (.lst p2.ur) := gt (p2.r, .lst p2.ur) (by simp [bReg])
            have go2 : H p2.o = some (.lst p2.uo) := gt (p2.o, .lst p2.uo) (by simp [bReg])
            have n1 : p.r ≠ R.lb := nt (p.r, .lst p.ur) (by simp [bReg])
            have n2 : p.o ≠ R.lb := nt (p.o, .lst p.uo) (by simp [bReg])
            have n3 : p2.r ≠ R.lb := nt (p2.r, .lst p2.ur) (by simp [bReg])
            have n4 : p2.o ≠ R.lb := nt (p2.o, .lst p2.uo) (by simp [bReg])
            have ln : ∀ (k : Blk) (q : BP), k ∈ st.blks → ElsAt T (imm H) k.rows q.ur → ElsAt T (imm H) k.others q.uo → q.ur.length ≤ 1000 ∧ q.uo.length ≤ 1000 := fun k q hk e1 e2 => by
              have := ok.rows hk
              rw [e1.len, e2.len]
              omega
            have bk2 : (ElsAt T (imm H) c.rows p2.ur ∧ ElsAt T (imm H) c.others p2.uo) ∧ BlsAt T H ps2 cs := by rw [hps, hbs] at bk; exact bk
            have l1 := ln b p (by rw [hs]; simp) er eo
            have l2 := ln c p2 (by rw [hs, hbs]; simp) bk2.1.1 bk2.1.2
            have fin : ∀ (H1 H2 H3 : Hp) (e : El) (v : V), b.made w = e → Chg R.lb (.lst (bsL R.bs)) (.lst (bsL R.bs).dropLast) H H1 → Same H1 H2 → ElAt T (imm H2) e v → (if c.beyond = true then ∃ z, Chg p2.o z (.lst (p2.uo ++ [v])) H2 H3 else ∃ z, Chg p2.r z (.lst (p2.ur ++ [v])) H2 H3) → Q (.bl true) H3 := fun H1 H2 H3 e v em c1 s2 he z => by
              have M1 := (M.pop hs hR c1).step s2
              obtain ⟨R', hR', M3⟩ := M1.put (b := c) (bs := cs) (p := p2) (ps := ps2) hbs hps he z
              exact q1 _ _ _ (by rw [es, em]) hR' M3
            rcases hw with hi | hi
            · walk_at "sy"
              rename_i H1 c1 x dx r0 r1 H2 nx g0 g1
              have ki : KI H H2 := (KI.chg c1 trivial).trans (KI.same nx.same)
              have he : ElAt T (imm H2) (.iff b.a b.rows b.others) (.ref x) := ⟨x, dx, r0, r1, atV b.a, p.ur, p.uo, rfl, imm_ins nx.at_ (by rfl), is_atD, imm_tup g0, ElsAt.keep ki er, imm_tup g1, ElsAt.keep ki eo⟩
              have em : b.made w = .iff b.a b.rows b.others := by unfold Blk.made; rw [if_pos hi]
              refine ⟨p2.b, p2.d, p2.r, p2.o, _, _, _, c.beyond, p2.ur, p2.uo, rfl, by walk_at "look", by walk_at "look", by walk_at "look", l2.1, l2.2, fun hy H3 z => ?_, fun hy H3 z => ?_⟩
              · walk_at "sy"
                exact fin H1 H2 H3 _ _ em c1 nx.same he (by rw [if_pos hy]; exact ⟨_, z⟩)
              · walk_at "sy"
                exact fin H1 H2 H3 _ _ em c1 nx.same he (by rw [if_neg (by rw [hy]; exact Bool.false_ne_true)]; exact ⟨_, z⟩)
            · have hni : ¬ w = wS "if" := by rw [hi]; exact kw_help.2.2
              walk_at "sy"
              rename_i H1 c1 x dx r0 H2 nx g0
              have ki : KI H H2 := (KI.chg c1 trivial).trans (KI.same nx.same)
              have he : ElAt T (imm H2) (.whl b.a b.rows) (.ref x) := ⟨x, dx, r0, atV b.a, p.ur, rfl, imm_ins nx.at_ (by rfl), is_atD, imm_tup g0, ElsAt.keep ki er⟩
              have em : b.made w = .whl b.a b.rows := by unfold Blk.made; rw [if_neg hni]
              refine ⟨p2.b, p2.d, p2.r, p2.o, _, _, _, c.beyond, p2.ur, p2.uo, rfl, by walk_at "look", by walk_at "look", by walk_at "look", l2.1, l2.2, fun hy H3 z => ?_, fun hy H3 z => ?_⟩
              · walk_at "sy"
                exact fin H1 H2 H3 _ _ em c1 nx.same he (by rw [if_pos hy]; exact ⟨_, z⟩)
              · walk_at "sy"
                exact fin H1 H2 H3 _ _ em c1 nx.same he (by rw [if_neg (by rw [hy]; exact Bool.false_ne_true)]; exact ⟨_, z⟩)
      · walk_at "sy"
        refine q0 _ ?_ M.own.same
        cases hbs : bs with
        | nil => unfold shutF; rw [hs, hbs]
        | cons c cs => rw [es c cs hbs, if_neg hw']
end
end
section

local macro_rules | `(tactic| walk_at "use") => `(tactic| (with_reducible refine w_chain ?_))
local macro_rules | `(tactic| walk_at "use") => `(tactic| ((with_reducible apply w_lenStr); (· omega)))
local macro_rules | `(tactic| walk_at "use") => `(tactic| (with_reducible refine w_iStr ?_))
local macro_rules | `(tactic| walk_at "use") => `(tactic| (with_reducible refine w_itS ?_))
local macro_rules | `(tactic| walk_at "use") => `(tactic| ((with_reducible refine w_GT ?_); intro a ha))
local macro_rules | `(tactic| walk_at "use") => `(tactic| ((with_reducible apply w_ninC); (· assumption)))
local macro_rules | `(tactic| walk_at "use") => `(tactic| ((with_reducible apply w_inC); (· assumption)))
local macro_rules | `(tactic| walk_at "use") => `(tactic| (with_reducible refine use_atomS (by assumption) (by assumption) fun H' s => ?_))
local macro_rules | `(tactic| walk_at "use") => `(tactic| (with_reducible refine use_atomN (by assumption) (by assumption) fun H' s => ?_))
local macro_rules | `(tactic| walk_at "use") => `(tactic| (with_reducible refine use_pathS (by assumption) (by assumption) fun H' l s hl => ?_))
local macro_rules | `(tactic| walk_at "use") => `(tactic| (with_reducible refine use_pathN (by assumption) (by assumption) fun H' s => ?_))
local macro_rules | `(tactic| walk_at "use") => `(tactic| (with_reducible refine use_name (by assumption) fun H' s => ?_))
local macro_rules | `(tactic| walk_at "use") => `(tactic| (with_reducible refine use_kind (by assumption) fun H' s => ?_))
local macro_rules | `(tactic| walk_at "use") => `(tactic| (with_reducible refine w_nnT ?_))
local macro_rules | `(tactic| walk_at "use") => `(tactic| (with_reducible refine w_nnF ?_))
local macro_rules | `(tactic| walk_at "use") => `(tactic| (with_reducible refine iteDT (by assumption) ?_))
local macro_rules | `(tactic| walk_at "use") => `(tactic| (with_reducible refine iteDF (by assumption) ?_))
local macro_rules | `(tactic| walk_at "use") => `(tactic| (with_reducible refine w_ndT (by assumption) ?_))
local macro_rules | `(tactic| walk_at "use") => `(tactic| (with_reducible refine w_ndF (by assumption) ?_))
local macro_rules | `(tactic| walk_at "use") => `(tactic| first
  | with_reducible refine w_fldaug ?_
  | ((with_reducible apply w_fldaug1); (· walk_at "look"); (· assumption); (· assumption); (· exact rfl))
  | ((with_reducible apply w_fldaug2); (· walk_at "look"); (· first | exact (by decide : 5 < 1000) | exact (by decide)); intro H' c)
  | with_reducible refine w_ipI ?_
  | with_reducible refine w_radd ?_
  | ((with_reducible apply w_eqNil); (· walk_at "look"); (· walk_at "look"))
  | ((with_reducible apply w_neNil); (· walk_at "look"); (· walk_at "look"))
  | ((with_reducible apply w_pop); (· walk_at "look"); (· first | assumption | exact rfl); intro H' c)
  | with_reducible refine w_iEnum ?_
  | ((with_reducible apply w_iEnum1); (· walk_at "look"))
  | with_reducible refine w_sl2 ?_
  | ((with_reducible apply w_slE); (· walk_at "look"); intro p H' n)
  | with_reducible refine w_rng3 ?_)
local macro_rules | `(tactic| walk_at "use") => `(tactic| (with_reducible refine use_IfRowL (by walk_at "look") (by walk_at "look") fun x dx r0 r1 H' n g0 g1 => ?_))
local macro_rules | `(tactic| walk_at "use") => `(tactic| (with_reducible refine use_WhileRowL (by walk_at "look") fun x dx r0 H' n g0 => ?_))
local macro_rules | `(tactic| walk_at "use") => `(tactic| (with_reducible refine use_RecordL (by walk_at "look") fun x dx r0 H' n g0 => ?_))
local macro_rules | `(tactic| walk_at "use") => `(tactic| (with_reducible refine use_HelperL (by walk_at "look") (by walk_at "look") fun x dx r0 r1 H' n g0 g1 => ?_))
local macro_rules | `(tactic| walk_at "use") => `(tactic| (with_reducible refine use_ProgramL (by walk_at "look") (by walk_at "look") fun x dx r0 r1 H' n g0 g1 => ?_))
local macro_rules | `(tactic| walk_at "use") => `(tactic| (with_reducible refine use_Head fun x dx H' n => ?_))
local macro_rules | `(tactic| walk_at "use") => `(tactic| (with_reducible refine use_Block fun x dx r o H' ow sm => ?_))
local macro_rules | `(tactic| walk_at "use") => `(tactic| (with_reducible refine use_Reader fun x dx r h b H' ow sm => ?_))
/-! ### the reader: a helper's end; beginnings -/
section
variable {P : Program} {w : World} {K : PySem.W.Frag} {mg : Str → Option Value} {base : Heap}
theorem RAt.head {T : Tx K mg} {H0 H : Hp} {R : RP} {st : RS} {z : Str × List Dt × Option Str} (M : RAt T H0 H R st) (hb : st.begun = some z) : ∃ h, R.hd = some h ∧ IsDs (imm H) z.2.1 h.us ∧ IsD (imm H) (optD z.2.2) h.g := by
  have hd := M.hd
  rw [hb] at hd
  cases hR : R.hd with
  | none => rw [hR] at hd; exact hd.elim
  | some h => rw [hR] at hd; exact ⟨h, rfl, hd.1, hd.2⟩
theorem RAt.nohead {T : Tx K mg} {H0 H : Hp} {R : RP} {st : RS} (M : RAt T H0 H R st) (hb : st.begun = none) : R.hd = none := by
  have hd := M.hd
  rw [hb] at hd
  cases hR : R.hd with
  | none => rfl
  | some h => rw [hR] at hd; exact hd.elim
def spFinished (T : Tx K mg) : Sp := fun vs H Q _ => ∃ (H0 : Hp) (R : RP) (st : RS), vs = [.ref R.x] ∧ RAt T H0 H R st ∧ RSok st ∧ st.begun ≠ none ∧ RdQ T H0 R.x (endF st) Q
theorem ok_Reader_finished (T : Tx K mg) : FnOk P w K mg base CX0 3 T.f_Reader_finished T.d_Reader_finished ["self"] (spFinished T) := by
  refine T.F_Reader_finished.ok sc_Reader_finished (fun vs H Q E h => ?_) (fun cdv A outer s H vs Q E hr h => ?_)
  · obtain ⟨H0, R, st, rfl, _⟩ := h
    rfl
  · obtain ⟨H0, R, st, rfl, M, ok, hb, q1, q0⟩ := h
    refine ⟨_, (pss_cons (ps_if (pt_cmpR op_ne (pe_callB (len_seqK (K := K) rfl) (by rfl) T.n_len PySem.boot_len (pa_cons (fldK (K := K) rfl (pv 0) rfl) pa_nil)) pe_int (nomark _))
        (pss_one (ps_ret pe_bl))
        pss_nil)
      (pss_cons (ps_set (i := 1) sc_Reader_finished.nd rfl (Or.inl rfl) (fldK (K := K) rfl (pv 0) rfl))
      (pss_cons (ps_expr (pe_bm PySem.F.plainAttrs_list PySem.F.slot_list_append PySem.F.type_list_append mt_append (fldK (K := K) rfl (pv 0) rfl) (pa_cons (pe_make T.Mk_Helper (ok_Helper_initL T) (hr.mono (by omega)) rfl T.c_Helper T.B_Helper_init .nil pass0 (pa_cons (fldK (K := K) rfl (pv 1) rfl) (pa_cons (fldK (K := K) rfl (pv 1) rfl) (pa_cons (fldK (K := K) rfl (pv 1) rfl) (pa_cons (fldK (K := K) rfl (pe_ix (ix_listK (K := K) rfl) (fldK (K := K) rfl (pv 0) rfl) pe_int (fun _ _ => rfl)) rfl) pa_nil))))) pa_nil)))
      (pss_cons (ps_fld (pv 0) pe_non rfl)
      (pss_cons (ps_fld (pv 0) (pe_lst pa_nil) rfl)
      (pss_one (ps_ret pe_bl))))))), ?_⟩
    have hsz := sizeLine_eq
    have ccl := T.cl_Reader
    have nr0 := T.na_Reader_records
    have nr1 := T.na_Reader_helpers
    have nr2 := T.na_Reader_begun
    have nr3 := T.na_Reader_blocks
    have nr4 := T.na_Reader_points
    have bcl := T.cl_Block
    have nb0 := T.na_Block_word
    have nb1 := T.na_Block_atom
    have nb2 := T.na_Block_rows
    have nb3 := T.na_Block_others
    have nb4 := T.na_Block_beyond
    have hcl := T.cl_Head
    have nh0 := T.na_Head_name
    have nh1 := T.na_Head_params
    have nh2 := T.na_Head_gives
    have hx : H R.x = some (.ins T.a_Reader R.dx (fsReader (.ref R.lr) (.ref R.lh) (hV R.hd) (.ref R.lb) (.int (st.pts : Int)))) := M.x
    have hlb := M.lb
    have hlh := M.lh
    have hbe := M.blen
    obtain ⟨⟨n, ps, g⟩, ez⟩ : ∃ z, st.begun = some z := by
      cases e : st.begun with
      | none => exact absurd e hb
      | some z => exact ⟨z, rfl⟩
    obtain ⟨h, hR, hps, hg⟩ := M.head ez
    obtain ⟨l, z, eb, hz⟩ := ok.bot hb
    have hul : R.uh.length ≤ 100 := by
      rw [M.hel.len]
      have := ok.hel
      omega
    cases hs : st.blks with
    | nil =>
      rw [hs] at eb
      simp at eb
    | cons b bs =>
      cases bs with
      | cons c cs =>
        rw [hs] at hbe
        simp only [List.length_cons] at hbe
        walk_at "sy"
        exact q0 _ (by unfold endF; rw [hs]) M.own.same
      | nil =>
        rw [hs] at hbe
        obtain ⟨p, pt, hP, gb, gr, go, er, eo, bk⟩ := M.top hs
        obtain rfl : pt = [] := by cases pt with
          | nil => rfl
          | cons _ _ => exact bk.elim
        have gb : H p.b = some (.ins T.a_Block p.d (fsBlock (.str b.w) (atV b.a) (.ref p.r) (.ref p.o) (.bl b.beyond))) := gb
        have at0 : atI (bsL R.bs) 0 = some (.ref p.b) := by rw [hP]; rfl
        have own := M.own
        unfold rReg at own
        rw [hs, hP, hR, ez] at own
        have hh : H h.p = some (.ins T.a_Head h.d (fsHead (.str n) (.ref h.l) h.g)) := own.get (by simp [hReg])
        have hhl : H h.l = some (.lst h.us) := own.get (by simp [hReg])
        have hV' : hV R.hd = .ref h.p := by rw [hR]; rfl
        rw [hV'] at hx
        have ee : endF st = some { st with hels := st.hels ++ [.hel n ps g b.rows], begun := none, blks := [] } := by
          unfold endF
          rw [hs, ez]
        have hbe1 : (((bsL R.bs).length : Nat) : Int) = 1 := by rw [hbe]; rfl
        walk_at "sy"
        rename_i x7 d7 r7 r8 H1 n1 g1 g3 H2 c2 H3 c3 lb2 H4 n4 H5 c5
        have k1 : KI H H1 := KI.same n1.same
        have he : ElAt T (imm H1) (.hel n ps g b.rows) (.ref x7) := ⟨x7, d7, r8, .ref r7, h.g, p.ur, rfl, imm_ins n1.at_ (by rfl), ⟨r7, h.us, rfl, imm_tup g1, hps.keep k1⟩, hg.keep k1, imm_tup g3, ElsAt.keep k1 er⟩
        have k2 : KI H1 H5 := (KI.chg c2 trivial).trans ((KI.chg c3 (by rfl)).trans ((KI.same n4.same).trans (KI.chg c5 (by rfl))))
        have own1 := own.step n1.same
        have own2 := Own.at (l1 := [(R.x, rIns T R st.pts R.lb (hV R.hd)), (R.lr, .lst R.ur)]) own1 c2
        have own3 := Own.at (l1 := []) own2 c3
        have own4 := own3.new n4
        have own5 := Own.at (l1 := [(lb2, .lst [])]) own4 c5
        let R' : RP := ⟨R.x, R.dx, R.lr, R.lh, lb2, R.ur, R.uh ++ [.ref x7], none, []⟩
        refine q1 _ R' H5 ee rfl ⟨?_, ElsAt.keep (k1.trans k2) M.rcs, ElsAt.snoc (ElAt.keep k2 he) (ElsAt.keep (k1.trans k2) M.hel), trivial, trivial⟩
        have own6 := own5.sub (r' := [(lb2, .lst [])] ++ [(R.x, rIns T R' st.pts lb2 .non), (R.lr, .lst R.ur), (R.lh, .lst (R.uh ++ [.ref x7]))]) (.cons_cons _ (.cons_cons _ (.cons_cons _ (.cons_cons _ (List.nil_sublist _)))))
        have own7 := own6.perm (List.perm_append_comm (l₁ := [(R.x, rIns T R' st.pts lb2 .non), (R.lr, .lst R.ur), (R.lh, .lst (R.uh ++ [.ref x7]))]) (l₂ := [(lb2, .lst [])]))
        exact own7
def spWithout (T : Tx K mg) : Sp := fun vs H Q _ => ∃ (H0 : Hp) (R : RP) (st : RS) (a : Addr) (ws : List Str), vs = [.ref R.x, .ref a] ∧ RAt T H0 H R st ∧ RSok st ∧ st.begun = none ∧ WAt H0 a ws ∧ 1 ≤ ws.length ∧ RdQ T H0 R.x (withoutF st ws) Q
theorem recF_rcd {ws : List Str} {e : El} (h : recF ws = some e) : ∃ n fs, e = .rcd n fs := by
  unfold recF at h
  split at h
  · split at h
    · obtain ⟨fs, _, e⟩ := Option.map_eq_some_iff.mp h
      exact ⟨_, fs, e.symm⟩
    · cases h
  · cases h
theorem ok_Reader_without (T : Tx K mg) : FnOk P w K mg base CX0 6 T.f_Reader_without T.d_Reader_without ["self", "words"] (spWithout T) := by
  refine T.F_Reader_without.ok sc_Reader_without (fun vs H Q E h => ?_) (fun cdv A outer s H vs Q E hr h => ?_)
  · obtain ⟨H0, R, st, a, ws, rfl, _⟩ := h
    rfl
  · obtain ⟨H0, R, st, a, ws, rfl, M, ok, hb, ⟨ha, hl, hw⟩, hn, q1, q0⟩ := h
    refine ⟨_, (pss_cons (ps_if (pt_cmpR op_eq (pe_ix (ix_listK (K := K) rfl) (pv 1) pe_int (fun _ _ => rfl)) pe_str (nomark _))
        (pss_cons (ps_set (i := 2) sc_Reader_without.nd rfl (Or.inl rfl) (pe_call (ok_record_by T) (hr.mono (by omega)) rfl T.m_record_by T.F_record_by.kp T.B_record_by .nil pass0 (pa_cons (pv 1) pa_nil)))
        (pss_cons (ps_if (PW.pt (pw_or (pt_cmp (pc_isN (pv 2))) (pw_or (pt_cmpR (op_neNil hr.units) (fldK (K := K) rfl (pv 0) rfl) (pe_lst pa_nil) (nomark _)) (pw_or1 (pt_cmpR op_eq (pe_callB (len_seqK (K := K) rfl) (by rfl) T.n_len PySem.boot_len (pa_cons (fldK (K := K) rfl (pv 0) rfl) pa_nil)) (pe_globI rfl T.m_MOST_RECORDS) (nomark _))))))
          (pss_one (ps_ret pe_bl))
          pss_nil)
        (pss_cons (ps_expr (pe_bm PySem.F.plainAttrs_list PySem.F.slot_list_append PySem.F.type_list_append mt_append (fldK (K := K) rfl (pv 0) rfl) (pa_cons (pv 2) pa_nil)))
        (pss_one (ps_ret pe_bl)))))
        pss_nil)
      (pss_cons (ps_if (PW.pt (pw_or (pt_cmpR op_ne (pe_ix (ix_listK (K := K) rfl) (pv 1) pe_int (fun _ _ => rfl)) pe_str (nomark _)) (pw_or1 (pt_cmpR op_eq (pe_callB (len_seqK (K := K) rfl) (by rfl) T.n_len PySem.boot_len (pa_cons (fldK (K := K) rfl (pv 0) rfl) pa_nil)) (pe_globI rfl T.m_MOST_HELPERS) (nomark _)))))
        (pss_one (ps_ret pe_bl))
        pss_nil)
      (pss_cons (ps_fld (pv 0) (pe_call (ok_head_by T) (hr.mono (by omega)) rfl T.m_head_by T.F_head_by.kp T.B_head_by .nil pass0 (pa_cons (pv 1) pa_nil)) rfl)
      (pss_cons (ps_fld (pv 0) (pe_lst (pa_cons (pe_make T.Mk_Block (ok_Block_init T) (hr.mono (by omega)) rfl T.c_Block T.B_Block_init .nil pass0 (pa_cons pe_str (pa_cons pe_int pa_nil))) pa_nil)) rfl)
      (pss_cons (ps_fld (pv 0) pe_int rfl)
      (pss_one (ps_ret (pe_cmp (pc_notN (fldK (K := K) rfl (pv 0) rfl)) rfl)))))))), ?_⟩
    have hsz := sizeLine_eq
    have ccl := T.cl_Reader
    have nr0 := T.na_Reader_records
    have nr1 := T.na_Reader_helpers
    have nr2 := T.na_Reader_begun
    have nr3 := T.na_Reader_blocks
    have nr4 := T.na_Reader_points
    have bcl := T.cl_Block
    have nb0 := T.na_Block_word
    have nb1 := T.na_Block_atom
    have nb2 := T.na_Block_rows
    have nb3 := T.na_Block_others
    have nb4 := T.na_Block_beyond
    have ha := M.own.same _ _ ha
    have hRh := M.nohead hb
    have hbl := ok.nob hb
    have hbs : R.bs = [] := by
      have := M.blk.len
      rw [hbl] at this
      exact List.length_eq_zero_iff.mp this
    have hx : H R.x = some (.ins T.a_Reader R.dx (fsReader (.ref R.lr) (.ref R.lh) (hV R.hd) (.ref R.lb) (.int (st.pts : Int)))) := M.x
    have hV' : hV R.hd = .non := by rw [hRh]; rfl
    rw [hV'] at hx
    have hlb := M.lb
    have hlh := M.lh
    have hlr := M.lr
    have hrl : R.ur.length = st.recs.length := M.rcs.len
    have hhl : R.uh.length = st.hels.length := M.hel.len
    have o1 := ok.rcs
    have o2 := ok.hel
    obtain ⟨x0, r, rfl⟩ : ∃ x0 r, ws = x0 :: r := by
      cases ws with
      | nil => simp at hn
      | cons x0 r => exact ⟨x0, r, rfl⟩
    have a0 : atI (List.map V.str (x0 :: r)) 0 = some (.str x0) := atI_nat (j := 0) rfl
    by_cases hrec : x0 = wS "record"
    · have ewh : (x0 :: r).head? = some (wS "record") := by rw [hrec]; rfl
      have ewN : recF (x0 :: r) = none → withoutF st (x0 :: r) = none := fun h => by
        unfold withoutF
        rw [if_pos ewh, h]
      have ewS : ∀ e, recF (x0 :: r) = some e → withoutF st (x0 :: r) = if st.hels = [] ∧ st.recs.length < 6 then some { st with recs := st.recs ++ [e] } else none := fun e h => by
        unfold withoutF
        rw [if_pos ewh, h]
      walk_at "sy"
      refine ⟨a, x0 :: r, rfl, ⟨ha, hl, hw⟩, fun e H1 v er s1 hv => ?_, fun H1 er s1 => ?_⟩
      · obtain ⟨n, fs, rfl⟩ := recF_rcd er
        have he : ElAt T (imm H1) (.rcd n fs) v := by
          obtain ⟨p, dx, v1, e1, h1, h2⟩ := hv
          exact ⟨p, dx, v1, e1, imm_ins h1 (by rfl), h2.imm⟩
        obtain ⟨vp, rfl⟩ : ∃ p, v = .ref p := by
          obtain ⟨p, dx, v1, e1, h1, h2⟩ := hv
          exact ⟨p, e1⟩
        have ew := ewS _ er
        have M1 := M.step s1
        by_cases hh : st.hels = []
        · have hu : R.uh = [] := by
            rw [hh] at hhl
            exact List.length_eq_zero_iff.mp hhl
          rw [hu] at hlh
          by_cases h6 : st.recs.length < 6
          · have h6' : ¬ ((R.ur.length : Nat) : Int) = 6 := by omega
            walk_at "sy"
            rename_i p3 H3 n3 H4 c4
            exact q1 _ _ H4 (by rw [ew, if_pos ⟨hh, h6⟩]) (by rfl) ((M1.step n3.same).addRec c4 (ElAt.keep (KI.same n3.same) he))
          · have h6' : ((R.ur.length : Nat) : Int) = 6 := by omega
            walk_at "sy"
            exact q0 _ (by rw [ew, if_neg fun h => h6 h.2]) (M1.own.same.trans (by walk_at "sm"))
        · walk_at "sy"
          have hne : (!R.uh.isEmpty) = true := by
            cases e : R.uh with
            | nil =>
              rw [e] at hhl
              exact absurd (List.length_eq_zero_iff.mp hhl.symm) hh
            | cons _ _ => rfl
          refine iteBT hne ?_
          walk_at "sy"
          exact q0 _ (by rw [ew, if_neg fun h => hh h.1]) (M1.own.same.trans (by walk_at "sm"))
      · walk_at "sy"
        exact q0 _ (ewN er) (M.own.same.trans s1)
    · by_cases hhel : x0 = wS "helper"
      · by_cases h6 : st.hels.length < 6
        · have h6' : ¬ ((R.uh.length : Nat) : Int) = 6 := by omega
          have ewh : ¬ (x0 :: r).head? = some (wS "record") := fun e => hrec (Option.some.inj e)
          have ewp : (x0 :: r).head? = some (wS "helper") ∧ st.hels.length < 6 := ⟨by rw [hhel]; rfl, h6⟩
          have ewN : headF (x0 :: r) = none → withoutF st (x0 :: r) = none := fun h => by
            unfold withoutF
            rw [if_neg ewh, if_pos ewp, h]
          have ewS : ∀ e, headF (x0 :: r) = some e → withoutF st (x0 :: r) = some { st with begun := some e, blks := [⟨wS "helper", .num 0, [], [], false⟩], pts := 0 } := fun e h => by
            unfold withoutF
            rw [if_neg ewh, if_pos ewp, h]
          have own := M.own
          unfold rReg at own
          rw [hRh, hb, hbs, hbl] at own
          walk_at "sy"
          refine ⟨a, x0 :: r, rfl, ⟨ha, hl, hw⟩, fun n ps g H1 hp dh lp gv vp eh ho hps hg s1 => ?_, fun H1 eh s1 => ?_⟩
          · walk_at "sy"
            rename_i H2 c2 xb db rb ob H3 ow sm lb2 H4 n4 H5 c5 H6 c6
            rw [show decide (V.ref hp = V.non) = false from decide_eq_false (fun h => V.noConfusion h)]
            have own1 := own.join ho
            have o2 := Own.at (l1 := [(hp, .ins T.a_Head dh (fsHead (.str n) (.ref lp) gv)), (lp, .lst vp)]) own1 c2
            have o3 := o2.join ow
            have o4 := o3.new n4
            have o5 := Own.at (l1 := [(lb2, .lst [.ref xb]), (xb, .ins T.a_Block db (fsBlock (.str (wS "helper")) (.int 0) (.ref rb) (.ref ob) (.bl false))), (rb, .lst []), (ob, .lst []), (hp, .ins T.a_Head dh (fsHead (.str n) (.ref lp) gv)), (lp, .lst vp)]) o4 c5
            have o6 := Own.at (l1 := [(lb2, .lst [.ref xb]), (xb, .ins T.a_Block db (fsBlock (.str (wS "helper")) (.int 0) (.ref rb) (.ref ob) (.bl false))), (rb, .lst []), (ob, .lst []), (hp, .ins T.a_Head dh (fsHead (.str n) (.ref lp) gv)), (lp, .lst vp)]) o5 c6
            have k0 : KI H H1 := KI.same s1
            have k1 : KI H1 H6 := (KI.chg c2 (by rfl)).trans ((KI.same sm).trans ((KI.same n4.same).trans ((KI.chg c5 (by rfl)).trans (KI.chg c6 (by rfl)))))
            let R' : RP := ⟨R.x, R.dx, R.lr, R.lh, lb2, R.ur, R.uh, some ⟨hp, dh, lp, gv, vp⟩, [⟨xb, db, rb, ob, [], []⟩]⟩
            refine q1 _ R' H6 (ewS _ eh) rfl ⟨?_, ElsAt.keep (k0.trans k1) M.rcs, ElsAt.keep (k0.trans k1) M.hel, ⟨hps.imm.keep k1, hg.imm.keep k1⟩, ⟨⟨rfl, rfl⟩, trivial⟩⟩
            have A : Reg := [(lb2, .lst [.ref xb])]
            have o7 := o6.sub (r' := [(lb2, .lst [.ref xb])] ++ (bReg T ⟨xb, db, rb, ob, [], []⟩ ⟨wS "helper", .num 0, [], [], false⟩ ++ (hReg T (some ⟨hp, dh, lp, gv, vp⟩) (some (n, ps, g)) ++ [(R.x, rIns T R' 0 lb2 (.ref hp)), (R.lr, .lst R.ur), (R.lh, .lst R.uh)]))) (.cons_cons _ (.cons_cons _ (.cons_cons _ (.cons_cons _ (.cons_cons _ (.cons_cons _ (.cons_cons _ (.cons_cons _ (.cons_cons _ (List.nil_sublist _))))))))))
            have pm : List.Perm ([(R.x, rIns T R' 0 lb2 (.ref hp)), (R.lr, .lst R.ur), (R.lh, .lst R.uh)] ++ ([(lb2, .lst [.ref xb])] ++ (hReg T (some ⟨hp, dh, lp, gv, vp⟩) (some (n, ps, g)) ++ bReg T ⟨xb, db, rb, ob, [], []⟩ ⟨wS "helper", .num 0, [], [], false⟩)))
                ([(lb2, .lst [.ref xb])] ++ (bReg T ⟨xb, db, rb, ob, [], []⟩ ⟨wS "helper", .num 0, [], [], false⟩ ++ (hReg T (some ⟨hp, dh, lp, gv, vp⟩) (some (n, ps, g)) ++ [(R.x, rIns T R' 0 lb2 (.ref hp)), (R.lr, .lst R.ur), (R.lh, .lst R.uh)]))) := by
              refine List.perm_append_comm.trans ?_
              rw [List.append_assoc]
              refine List.Perm.append_left _ ?_
              rw [← List.append_assoc]
              exact List.Perm.append_right _ List.perm_append_comm
            exact o7.perm pm
          · walk_at "sy"
            rename_i H2 c2 xb db rb ob H3 ow sm lb2 H4 n4 H5 c5 H6 c6
            rw [show decide (V.non = V.non) = true from decide_eq_true rfl]
            have own1 := own.step s1
            have o2 := Own.at (l1 := []) own1 c2
            have o3 := o2.join ow
            have o4 := o3.new n4
            have o5 := Own.at (l1 := [(lb2, .lst [.ref xb]), (xb, .ins T.a_Block db (fsBlock (.str (wS "helper")) (.int 0) (.ref rb) (.ref ob) (.bl false))), (rb, .lst []), (ob, .lst [])]) o4 c5
            have o6 := Own.at (l1 := [(lb2, .lst [.ref xb]), (xb, .ins T.a_Block db (fsBlock (.str (wS "helper")) (.int 0) (.ref rb) (.ref ob) (.bl false))), (rb, .lst []), (ob, .lst [])]) o5 c6
            exact q0 _ (ewN eh) o6.same
        · have h6' : ((R.uh.length : Nat) : Int) = 6 := by omega
          walk_at "sy"
          exact q0 _ (by unfold withoutF; rw [if_neg (fun (e : (x0 :: r).head? = some (wS "record")) => hrec (Option.some.inj e)), if_neg (fun (h : (x0 :: r).head? = some (wS "helper") ∧ st.hels.length < 6) => h6 h.2)]) M.own.same
      · walk_at "sy"
        exact q0 _ (by unfold withoutF; rw [if_neg (fun (e : (x0 :: r).head? = some (wS "record")) => hrec (Option.some.inj e)), if_neg (fun (h : (x0 :: r).head? = some (wS "helper") ∧ st.hels.length < 6) => hhel (Option.some.inj h.1))]) (M.own.same.trans (by walk_at "sm"))
end
end
section

local macro_rules | `(tactic| walk_at "use") => `(tactic| (with_reducible refine w_chain ?_))
local macro_rules | `(tactic| walk_at "use") => `(tactic| ((with_reducible apply w_lenStr); (· omega)))
local macro_rules | `(tactic| walk_at "use") => `(tactic| (with_reducible refine w_iStr ?_))
local macro_rules | `(tactic| walk_at "use") => `(tactic| (with_reducible refine w_itS ?_))
local macro_rules | `(tactic| walk_at "use") => `(tactic| ((with_reducible refine w_GT ?_); intro a ha))
local macro_rules | `(tactic| walk_at "use") => `(tactic| ((with_reducible apply w_ninC); (· assumption)))
local macro_rules | `(tactic| walk_at "use") => `(tactic| ((with_reducible apply w_inC); (· assumption)))
local macro_rules | `(tactic| walk_at "use") => `(tactic| (with_reducible refine use_atomS (by assumption) (by assumption) fun H' s => ?_))
local macro_rules | `(tactic| walk_at "use") => `(tactic| (with_reducible refine use_atomN (by assumption) (by assumption) fun H' s => ?_))
local macro_rules | `(tactic| walk_at "use") => `(tactic| (with_reducible refine use_pathS (by assumption) (by assumption) fun H' l s hl => ?_))
local macro_rules | `(tactic| walk_at "use") => `(tactic| (with_reducible refine use_pathN (by assumption) (by assumption) fun H' s => ?_))
local macro_rules | `(tactic| walk_at "use") => `(tactic| (with_reducible refine use_name (by assumption) fun H' s => ?_))
local macro_rules | `(tactic| walk_at "use") => `(tactic| (with_reducible refine use_kind (by assumption) fun H' s => ?_))
local macro_rules | `(tactic| walk_at "use") => `(tactic| (with_reducible refine w_nnT ?_))
local macro_rules | `(tactic| walk_at "use") => `(tactic| (with_reducible refine w_nnF ?_))
local macro_rules | `(tactic| walk_at "use") => `(tactic| (with_reducible refine iteDT (by assumption) ?_))
local macro_rules | `(tactic| walk_at "use") => `(tactic| (with_reducible refine iteDF (by assumption) ?_))
local macro_rules | `(tactic| walk_at "use") => `(tactic| (with_reducible refine w_ndT (by assumption) ?_))
local macro_rules | `(tactic| walk_at "use") => `(tactic| (with_reducible refine w_ndF (by assumption) ?_))
local macro_rules | `(tactic| walk_at "use") => `(tactic| first
  | with_reducible refine w_fldaug ?_
  | ((with_reducible apply w_fldaug1); (· walk_at "look"); (· assumption); (· assumption); (· exact rfl))
  | ((with_reducible apply w_fldaug2); (· walk_at "look"); (· first | exact (by decide : 5 < 1000) | exact (by decide)); intro H' c)
  | with_reducible refine w_ipI ?_
  | with_reducible refine w_radd ?_
  | ((with_reducible apply w_eqNil); (· walk_at "look"); (· walk_at "look"))
  | ((with_reducible apply w_neNil); (· walk_at "look"); (· walk_at "look"))
  | ((with_reducible apply w_pop); (· walk_at "look"); (· first | assumption | exact rfl); intro H' c)
  | with_reducible refine w_iEnum ?_
  | ((with_reducible apply w_iEnum1); (· walk_at "look"))
  | with_reducible refine w_sl2 ?_
  | ((with_reducible apply w_slE); (· walk_at "look"); intro p H' n)
  | with_reducible refine w_rng3 ?_)
local macro_rules | `(tactic| walk_at "use") => `(tactic| (with_reducible refine use_IfRowL (by walk_at "look") (by walk_at "look") fun x dx r0 r1 H' n g0 g1 => ?_))
local macro_rules | `(tactic| walk_at "use") => `(tactic| (with_reducible refine use_WhileRowL (by walk_at "look") fun x dx r0 H' n g0 => ?_))
local macro_rules | `(tactic| walk_at "use") => `(tactic| (with_reducible refine use_RecordL (by walk_at "look") fun x dx r0 H' n g0 => ?_))
local macro_rules | `(tactic| walk_at "use") => `(tactic| (with_reducible refine use_HelperL (by walk_at "look") (by walk_at "look") fun x dx r0 r1 H' n g0 g1 => ?_))
local macro_rules | `(tactic| walk_at "use") => `(tactic| (with_reducible refine use_ProgramL (by walk_at "look") (by walk_at "look") fun x dx r0 r1 H' n g0 g1 => ?_))
local macro_rules | `(tactic| walk_at "use") => `(tactic| (with_reducible refine use_Head fun x dx H' n => ?_))
local macro_rules | `(tactic| walk_at "use") => `(tactic| (with_reducible refine use_Block fun x dx r o H' ow sm => ?_))
local macro_rules | `(tactic| walk_at "use") => `(tactic| (with_reducible refine use_Reader fun x dx r h b H' ow sm => ?_))
/-! ### the reader: rows within a helper; any row -/
section
variable {P : Program} {w : World} {K : PySem.W.Frag} {mg : Str → Option Value} {base : Heap}
theorem RowAt.ref {T : Tx K mg} {H : Hp} {r : Rw} {v : V} (h : RowAt T H r v) : ∃ p, v = .ref p := by
  cases r with
  | set => obtain ⟨p, _, _, _, _, _, e, _⟩ := h; exact ⟨p, e⟩
  | make => obtain ⟨p, _, _, _, _, e, _⟩ := h; exact ⟨p, e⟩
  | lend => obtain ⟨p, _, _, _, _, e, _⟩ := h; exact ⟨p, e⟩
  | call => obtain ⟨p, _, _, _, _, e, _⟩ := h; exact ⟨p, e⟩
  | drop => obtain ⟨p, _, _, e, _⟩ := h; exact ⟨p, e⟩
  | back => obtain ⟨p, _, _, e, _⟩ := h; exact ⟨p, e⟩
  | ask => obtain ⟨p, _, _, e, _⟩ := h; exact ⟨p, e⟩
  | tell => obtain ⟨p, _, _, e, _⟩ := h; exact ⟨p, e⟩
  | _ => obtain ⟨p, _, _, _, e, _⟩ := h; exact ⟨p, e⟩
theorem RAt.neX {T : Tx K mg} {H0 H : Hp} {R : RP} {st : RS} (M : RAt T H0 H R st) {e : Addr × HO} (h : e ∈ hReg T R.hd st.begun ++ bsReg T R.bs st.blks) : e.1 ≠ R.x := fun z => by
  have nd := M.own.nd
  unfold rReg rTop keys at nd
  simp only [List.cons_append, List.nil_append, List.map_cons, List.nodup_cons] at nd
  refine nd.1 (z ▸ ?_)
  exact List.mem_cons_of_mem _ (List.mem_cons_of_mem _ (List.mem_cons_of_mem _ (List.mem_map_of_mem (f := (·.1)) h)))
theorem strL_one (s : String) (h : Str.ofString s ∈ keptL := by decide +kernel) : strL [Str.ofString s] := strL_kw _ h
def spWithin (T : Tx K mg) : Sp := fun vs H Q _ => ∃ (H0 : Hp) (R : RP) (st : RS) (a : Addr) (ws : List Str), vs = [.ref R.x, .ref a] ∧ RAt T H0 H R st ∧ RSok st ∧ st.begun ≠ none ∧ WAt H0 a ws ∧ strL ws ∧ 1 ≤ ws.length ∧ RdQ T H0 R.x (withinF st ws) Q
theorem ok_Reader_within (T : Tx K mg) : FnOk P w K mg base CX0 8 T.f_Reader_within T.d_Reader_within ["self", "words"] (spWithin T) := by
  refine T.F_Reader_within.ok sc_Reader_within (fun vs H Q E h => ?_) (fun cdv A outer s H vs Q E hr h => ?_)
  · obtain ⟨H0, R, st, a, ws, rfl, _⟩ := h
    rfl
  · obtain ⟨H0, R, st, a, ws, rfl, M, ok, hb, ⟨ha0, hl, hw⟩, hst, hn, q1, q0⟩ := h
    have hu65 := hu65_of hr
    refine ⟨_, (pss_cons (ps_if (pt_cmpR (in_seqK (K := K) rfl) (pe_ix (ix_listK (K := K) rfl) (pv 1) pe_int (fun _ _ => rfl)) (pe_tup (pa_cons pe_str (pa_cons pe_str pa_nil))) (by rfl))
        (pss_one (ps_ret (pe_meth (pv 0) T.cl_Reader T.M_Reader_opened (ok_Reader_opened T) (hr.mono (by omega)) T.B_Reader_opened .nil pass0 (pa_cons (pv 1) pa_nil))))
        pss_nil)
      (pss_cons (ps_if (pt_cmpR (eqDK (K := K) rfl hr.units) (pv 1) (pe_lst (pa_cons pe_str pa_nil)) (nomark _))
        (pss_one (ps_ret (pe_meth0 (pv 0) T.cl_Reader T.M_Reader_turned (ok_Reader_turned T) (hr.mono (by omega)) T.B_Reader_turned .nil pass0)))
        pss_nil)
      (pss_cons (ps_if (pt_cmpR (op_inT hu65) (pv 1) (pe_tup (pa_cons (pe_lst (pa_cons pe_str pa_nil)) (pa_cons (pe_lst (pa_cons pe_str pa_nil)) pa_nil))) (by rfl))
        (pss_one (ps_ret (pe_meth (pv 0) T.cl_Reader T.M_Reader_shut (ok_Reader_shut T) (hr.mono (by omega)) T.B_Reader_shut .nil pass0 (pa_cons (pe_ifExp (pt_cmpR (eqDK (K := K) rfl hr.units) (pv 1) (pe_lst (pa_cons pe_str pa_nil)) (nomark _)) pe_str pe_str) pa_nil))))
        pss_nil)
      (pss_cons (ps_if (pt_cmpR (eqDK (K := K) rfl hr.units) (pv 1) (pe_lst (pa_cons pe_str pa_nil)) (nomark _))
        (pss_one (ps_ret (pe_meth0 (pv 0) T.cl_Reader T.M_Reader_finished (ok_Reader_finished T) (hr.mono (by omega)) T.B_Reader_finished .nil pass0)))
        pss_nil)
      (pss_cons (ps_set (i := 2) sc_Reader_within.nd rfl (Or.inl rfl) (pe_call (ok_row_by T) (hr.mono (by omega)) rfl T.m_row_by T.F_row_by.kp T.B_row_by .nil pass0 (pa_cons (pv 1) pa_nil)))
      (pss_cons (ps_if (PW.pt (pw_or (pt_cmp (pc_isN (pv 2))) (pw_or1 (pt_cmpR op_eq (fldK (K := K) rfl (pv 0) rfl) (pe_globI rfl T.m_MOST_ROWS) (nomark _)))))
        (pss_one (ps_ret pe_bl))
        pss_nil)
      (pss_cons (ps_fldaug (pv 0) pe_int in_add)
      (pss_cons (ps_expr (pe_meth (pe_ix (ix_listK (K := K) rfl) (fldK (K := K) rfl (pv 0) rfl) (pe_un un_neg pe_int) (fun _ _ => rfl)) T.cl_Block T.M_Block_put (ok_Block_put T) (hr.mono (by omega)) T.B_Block_put .nil pass0 (pa_cons (pv 2) pa_nil)))
      (pss_one (ps_ret pe_bl)))))))))), ?_⟩
    have hsz := sizeLine_eq
    have ccl := T.cl_Reader
    have nr0 := T.na_Reader_records
    have nr1 := T.na_Reader_helpers
    have nr2 := T.na_Reader_begun
    have nr3 := T.na_Reader_blocks
    have nr4 := T.na_Reader_points
    have bcl := T.cl_Block
    have nb0 := T.na_Block_word
    have nb1 := T.na_Block_atom
    have nb2 := T.na_Block_rows
    have nb3 := T.na_Block_others
    have nb4 := T.na_Block_beyond
    have ha := M.own.same _ _ ha0
    have hx : H R.x = some (.ins T.a_Reader R.dx (fsReader (.ref R.lr) (.ref R.lh) (hV R.hd) (.ref R.lb) (.int (st.pts : Int)))) := M.x
    have hlb := M.lb
    obtain ⟨x0, r, rfl⟩ : ∃ x0 r, ws = x0 :: r := by
      cases ws with
      | nil => simp at hn
      | cons x0 r => exact ⟨x0, r, rfl⟩
    have a0 : atI (List.map V.str (x0 :: r)) 0 = some (.str x0) := atI_nat (j := 0) rfl
    walk_at "sy"
    rename_i pt Ht nt
    have ei : inV (V.str x0) [V.str (Str.ofString "if"), V.str (Str.ofString "while")] = decide (x0 ∈ [wS "if", wS "while"]) := inV_strs x0 [wS "if", wS "while"]
    rw [ei]
    have Mt := M.step nt.same
    by_cases h1 : x0 = wS "if" ∨ x0 = wS "while"
    · refine iteDT (by simpa using h1) ?_
      walk_at "sy"
      have ew : withinF st (x0 :: r) = openF st (x0 :: r) := by
        unfold withinF
        rw [if_pos (show (x0 :: r).head? = some (wS "if") ∨ (x0 :: r).head? = some (wS "while") from h1.imp (fun e => by rw [e]; rfl) fun e => by rw [e]; rfl)]
      exact ⟨H0, R, st, a, x0 :: r, rfl, Mt, ok, ⟨ha0, hl, hw⟩, hn, by rw [← ew]; exact ⟨q1, q0⟩⟩
    · refine iteDF (by simpa using h1) ?_
      have e1 : ¬ ((x0 :: r).head? = some (wS "if") ∨ (x0 :: r).head? = some (wS "while")) := fun h => h1 (h.imp Option.some.inj Option.some.inj)
      have ew1 : withinF st (x0 :: r) = if x0 :: r = [wS "else"] then turnF st
        else if x0 :: r = [wS "fi"] then shutF (wS "if") st
        else if x0 :: r = [wS "od"] then shutF (wS "while") st
        else if x0 :: r = [wS "end"] then endF st
        else match rowF (x0 :: r), st.blks with
          | some r, b :: bs => if st.pts < 60 then some { st with pts := st.pts + 1, blks := b.put (.row r) :: bs } else none
          | _, _ => none := by
        unfold withinF
        rw [if_neg e1] <;> rfl
      walk_at "sy"
      rename_i pe He ne
      refine w_eqSs (us := x0 :: r) (ws := [wS "else"]) (by walk_at "look") (by walk_at "look") hst (strL_one "else") ?_
      have Me := Mt.step ne.same
      by_cases h2 : x0 :: r = [wS "else"]
      · walk_at "sy"
        exact ⟨H0, R, st, rfl, Me, ok, hb, by rw [ew1, if_pos h2] at q1 q0; exact ⟨q1, q0⟩⟩
      · rw [if_neg h2] at ew1
        walk_at "sy"
        rename_i pf Hf nf po Ho no p2 H2 n2
        refine w_inSs (ws := x0 :: r) (us := [wS "fi"]) (vs := [wS "od"]) (by walk_at "look") (by walk_at "look") (by walk_at "look") (by walk_at "look") hst (strL_one "fi") (strL_one "od") ?_
        have M2 := ((Me.step nf.same).step no.same).step n2.same
        by_cases h3 : x0 :: r = [wS "fi"] ∨ x0 :: r = [wS "od"]
        · walk_at "sy"
          rename_i pg Hg ng
          refine w_eqSs (us := x0 :: r) (ws := [wS "fi"]) (by walk_at "look") (by walk_at "look") hst (strL_one "fi") ?_
          have Mg := M2.step ng.same
          by_cases h4 : x0 :: r = [wS "fi"]
          · rw [if_pos h4] at ew1
            walk_at "sy"
            exact ⟨H0, R, st, _, rfl, Mg, ok, hb, .inl rfl, by rw [ew1] at q1 q0; exact ⟨q1, q0⟩⟩
          · rw [if_neg h4, if_pos (h3.resolve_left h4)] at ew1
            walk_at "sy"
            exact ⟨H0, R, st, _, rfl, Mg, ok, hb, .inr rfl, by rw [ew1] at q1 q0; exact ⟨q1, q0⟩⟩
        · rw [if_neg (fun h => h3 (.inl h)), if_neg (fun h => h3 (.inr h))] at ew1
          walk_at "sy"
          rename_i pg Hg ng
          refine w_eqSs (us := x0 :: r) (ws := [wS "end"]) (by walk_at "look") (by walk_at "look") hst (strL_one "end") ?_
          have Mg := M2.step ng.same
          by_cases h4 : x0 :: r = [wS "end"]
          · rw [if_pos h4] at ew1
            walk_at "sy"
            exact ⟨H0, R, st, rfl, Mg, ok, hb, by rw [ew1] at q1 q0; exact ⟨q1, q0⟩⟩
          · rw [if_neg h4] at ew1
            walk_at "sy"
            obtain ⟨lz, z, ez, hz⟩ := ok.bot hb
            cases hs : st.blks with
            | nil =>
              rw [hs] at ez
              simp at ez
            | cons b bs =>
              refine ⟨a, x0 :: r, rfl, ⟨by walk_at "look", hl, hw⟩, trivial, fun r' H3 v er s3 hv => ?_, fun H3 er s3 => ?_⟩
              · obtain ⟨vp, rfl⟩ := hv.ref
                have M3 := Mg.step s3
                obtain ⟨p, ps, hR, gb, gr, go, eer, eeo, bk⟩ := M3.top hs
                have gb : H3 p.b = some (.ins T.a_Block p.d (fsBlock (.str b.w) (atV b.a) (.ref p.r) (.ref p.o) (.bl b.beyond))) := gb
                have hx3 : H3 R.x = some (.ins T.a_Reader R.dx (fsReader (.ref R.lr) (.ref R.lh) (hV R.hd) (.ref R.lb) (.int (st.pts : Int)))) := M3.x
                have hlb3 := M3.lb
                have at1 : atI (bsL R.bs) (-1) = some (.ref p.b) := by rw [hR, bsL_cons]; exact atI_snoc _ _
                have nex : p.b ≠ R.x := M3.neX (e := (p.b, bIns T p b)) (by
                  refine List.mem_append_right _ ?_
                  rw [hs, hR]
                  exact List.mem_cons_self ..)
                have hrr := ok.rows (b := b) (by rw [hs]; simp)
                by_cases h60 : st.pts = 60
                · have h60' : (st.pts : Int) = 60 := by omega
                  walk_at "sy"
                  exact q0 _ (by rw [ew1, er, hs]; exact if_neg (by omega)) M3.own.same
                · have h60' : ¬ (st.pts : Int) = 60 := by omega
                  have hp60 := ok.pts
                  walk_at "sy"
                  rename_i H4 c4
                  have c4' : Chg R.x _ (rIns T R (st.pts + 1) R.lb (hV R.hd)) H3 H4 := c4
                  have M4 := M3.setPts c4'
                  have he : ElAt T (imm H4) (.row r') (.ref vp) := ElAt.keep (KI.chg c4 (by rfl)) (show ElAt T (imm H3) (.row r') (.ref vp) from hv.imm)
                  have fin : ∀ H5, (if b.beyond = true then ∃ z, Chg p.o z (.lst (p.uo ++ [.ref vp])) H4 H5 else ∃ z, Chg p.r z (.lst (p.ur ++ [.ref vp])) H4 H5) → Q (.bl true) H5 := fun H5 z => by
                    obtain ⟨R', hR', M5⟩ := M4.put (b := b) (bs := bs) (p := p) (ps := ps) hs hR he z
                    exact q1 _ _ _ (by rw [ew1, er, hs]; exact if_pos (by omega)) hR' M5
                  refine ⟨p.b, p.d, p.r, p.o, _, _, _, b.beyond, p.ur, p.uo, rfl, by walk_at "look", by walk_at "look", by walk_at "look", by rw [eer.len]; omega, by rw [eeo.len]; omega, fun hy H5 z => ?_, fun hy H5 z => ?_⟩
                  · walk_at "sy"
                    exact fin H5 (by rw [if_pos hy]; exact ⟨_, z⟩)
                  · walk_at "sy"
                    exact fin H5 (by rw [if_neg (by rw [hy]; exact Bool.false_ne_true)]; exact ⟨_, z⟩)
              · walk_at "sy"
                exact q0 _ (by rw [ew1, er]) (Mg.own.same.trans (by walk_at "sm"))
def spGood (T : Tx K mg) : Sp := fun vs H Q _ => ∃ (H0 : Hp) (R : RP) (st : RS) (a : Addr) (ws : List Str), vs = [.ref R.x, .ref a] ∧ RAt T H0 H R st ∧ RSok st ∧ WAt H0 a ws ∧ strL ws ∧ 1 ≤ ws.length ∧ RdQ T H0 R.x (goodF st ws) Q
theorem ok_Reader_good (T : Tx K mg) : FnOk P w K mg base CX0 9 T.f_Reader_good T.d_Reader_good ["self", "words"] (spGood T) := by
  refine T.F_Reader_good.ok sc_Reader_good (fun vs H Q E h => ?_) (fun cdv A outer s H vs Q E hr h => ?_)
  · obtain ⟨H0, R, st, a, ws, rfl, _⟩ := h
    rfl
  · obtain ⟨H0, R, st, a, ws, rfl, M, ok, ha0, hst, hn, q⟩ := h
    refine ⟨_, (pss_cons (ps_if (pt_cmp (pc_isN (fldK (K := K) rfl (pv 0) rfl)))
        (pss_one (ps_ret (pe_meth (pv 0) T.cl_Reader T.M_Reader_without (ok_Reader_without T) (hr.mono (by omega)) T.B_Reader_without .nil pass0 (pa_cons (pv 1) pa_nil))))
        pss_nil)
      (pss_one (ps_ret (pe_meth (pv 0) T.cl_Reader T.M_Reader_within (ok_Reader_within T) (hr.mono (by omega)) T.B_Reader_within .nil pass0 (pa_cons (pv 1) pa_nil))))), ?_⟩
    have hsz := sizeLine_eq
    have ccl := T.cl_Reader
    have nr0 := T.na_Reader_records
    have nr1 := T.na_Reader_helpers
    have nr2 := T.na_Reader_begun
    have nr3 := T.na_Reader_blocks
    have nr4 := T.na_Reader_points
    have bcl := T.cl_Block
    have nb0 := T.na_Block_word
    have nb1 := T.na_Block_atom
    have nb2 := T.na_Block_rows
    have nb3 := T.na_Block_others
    have nb4 := T.na_Block_beyond
    have hx : H R.x = some (.ins T.a_Reader R.dx (fsReader (.ref R.lr) (.ref R.lh) (hV R.hd) (.ref R.lb) (.int (st.pts : Int)))) := M.x
    cases hb : st.begun with
    | none =>
      have hV' : hV R.hd = .non := by rw [M.nohead hb]; rfl
      rw [hV'] at hx
      walk_at "sy"
      have eg : goodF st ws = withoutF st ws := by unfold goodF; rw [if_pos hb]
      rw [eg] at q
      exact ⟨H0, R, st, a, ws, rfl, M, ok, hb, ha0, hn, q⟩
    | some z =>
      obtain ⟨h, hR, _⟩ := M.head hb
      have hV' : hV R.hd = .ref h.p := by rw [hR]; rfl
      rw [hV'] at hx
      walk_at "sy"
      have hb' : st.begun ≠ none := by rw [hb]; simp
      have eg : goodF st ws = withinF st ws := by unfold goodF; rw [if_neg hb']
      rw [eg] at q
      exact ⟨H0, R, st, a, ws, rfl, M, ok, hb', ha0, hst, hn, q⟩
end
end
section

local macro_rules | `(tactic| walk_at "use") => `(tactic| (with_reducible refine w_chain ?_))
local macro_rules | `(tactic| walk_at "use") => `(tactic| ((with_reducible apply w_lenStr); (· omega)))
local macro_rules | `(tactic| walk_at "use") => `(tactic| (with_reducible refine w_iStr ?_))
local macro_rules | `(tactic| walk_at "use") => `(tactic| (with_reducible refine w_itS ?_))
local macro_rules | `(tactic| walk_at "use") => `(tactic| ((with_reducible refine w_GT ?_); intro a ha))
local macro_rules | `(tactic| walk_at "use") => `(tactic| ((with_reducible apply w_ninC); (· assumption)))
local macro_rules | `(tactic| walk_at "use") => `(tactic| ((with_reducible apply w_inC); (· assumption)))
local macro_rules | `(tactic| walk_at "use") => `(tactic| (with_reducible refine use_atomS (by assumption) (by assumption) fun H' s => ?_))
local macro_rules | `(tactic| walk_at "use") => `(tactic| (with_reducible refine use_atomN (by assumption) (by assumption) fun H' s => ?_))
local macro_rules | `(tactic| walk_at "use") => `(tactic| (with_reducible refine use_pathS (by assumption) (by assumption) fun H' l s hl => ?_))
local macro_rules | `(tactic| walk_at "use") => `(tactic| (with_reducible refine use_pathN (by assumption) (by assumption) fun H' s => ?_))
local macro_rules | `(tactic| walk_at "use") => `(tactic| (with_reducible refine use_name (by assumption) fun H' s => ?_))
local macro_rules | `(tactic| walk_at "use") => `(tactic| (with_reducible refine use_kind (by assumption) fun H' s => ?_))
local macro_rules | `(tactic| walk_at "use") => `(tactic| (with_reducible refine w_nnT ?_))
local macro_rules | `(tactic| walk_at "use") => `(tactic| (with_reducible refine w_nnF ?_))
local macro_rules | `(tactic| walk_at "use") => `(tactic| (with_reducible refine iteDT (by assumption) ?_))
local macro_rules | `(tactic| walk_at "use") => `(tactic| (with_reducible refine iteDF (by assumption) ?_))
local macro_rules | `(tactic| walk_at "use") => `(tactic| (with_reducible refine w_ndT (by assumption) ?_))
local macro_rules | `(tactic| walk_at "use") => `(tactic| (with_reducible refine w_ndF (by assumption) ?_))
local macro_rules | `(tactic| walk_at "use") => `(tactic| first
  | with_reducible refine w_fldaug ?_
  | ((with_reducible apply w_fldaug1); (· walk_at "look"); (· assumption); (· assumption); (· exact rfl))
  | ((with_reducible apply w_fldaug2); (· walk_at "look"); (· first | exact (by decide : 5 < 1000) | exact (by decide)); intro H' c)
  | with_reducible refine w_ipI ?_
  | with_reducible refine w_radd ?_
  | ((with_reducible apply w_eqNil); (· walk_at "look"); (· walk_at "look"))
  | ((with_reducible apply w_neNil); (· walk_at "look"); (· walk_at "look"))
  | ((with_reducible apply w_pop); (· walk_at "look"); (· first | assumption | exact rfl); intro H' c)
  | with_reducible refine w_iEnum ?_
  | ((with_reducible apply w_iEnum1); (· walk_at "look"))
  | with_reducible refine w_sl2 ?_
  | ((with_reducible apply w_slE); (· walk_at "look"); intro p H' n)
  | with_reducible refine w_rng3 ?_)
local macro_rules | `(tactic| walk_at "use") => `(tactic| (with_reducible refine use_IfRowL (by walk_at "look") (by walk_at "look") fun x dx r0 r1 H' n g0 g1 => ?_))
local macro_rules | `(tactic| walk_at "use") => `(tactic| (with_reducible refine use_WhileRowL (by walk_at "look") fun x dx r0 H' n g0 => ?_))
local macro_rules | `(tactic| walk_at "use") => `(tactic| (with_reducible refine use_RecordL (by walk_at "look") fun x dx r0 H' n g0 => ?_))
local macro_rules | `(tactic| walk_at "use") => `(tactic| (with_reducible refine use_HelperL (by walk_at "look") (by walk_at "look") fun x dx r0 r1 H' n g0 g1 => ?_))
local macro_rules | `(tactic| walk_at "use") => `(tactic| (with_reducible refine use_ProgramL (by walk_at "look") (by walk_at "look") fun x dx r0 r1 H' n g0 g1 => ?_))
local macro_rules | `(tactic| walk_at "use") => `(tactic| (with_reducible refine use_Head fun x dx H' n => ?_))
local macro_rules | `(tactic| walk_at "use") => `(tactic| (with_reducible refine use_Block fun x dx r o H' ow sm => ?_))
local macro_rules | `(tactic| walk_at "use") => `(tactic| (with_reducible refine use_Reader fun x dx r h b H' ow sm => ?_))
/-! ### texts read, or refused -/
section
theorem over_heap {H : Hp} {T0 : Addr} {a dx : Addr} {fs : List (Str × V)} (ha : H a = none) (hd : upd H a (exo a T0 none) dx = none) (hne : dx ≠ a) : 
    (upd (upd (upd H a (exo a T0 none)) dx (exd dx fs)) a (exo a T0 (some dx))) a = some (exo a T0 (some dx)) ∧ (upd (upd (upd H a (exo a T0 none)) dx (exd dx fs)) a (exo a T0 (some dx))) dx = some (exd dx fs) ∧ H dx = none ∧
    Same H (upd (del (upd (upd (upd H a (exo a T0 none)) dx (exd dx fs)) a (exo a T0 (some dx))) a) dx (.xd fs)) := by
  have hd2 : H dx = none := by rw [upd_ne hne] at hd; exact hd
  refine ⟨upd_same, by rw [upd_ne hne, upd_same], hd2, fun b o e => ?_⟩
  have h1 : b ≠ a := ne_of_none e ha
  have h2 : b ≠ dx := ne_of_none e hd2
  rw [upd_ne h2, del_ne h1, upd_ne h1, upd_ne h2, upd_ne h1]
  exact e
end
theorem w_jsI {σ : L2.St} {H : Hp} {j n : Nat} {s : Str} {R : Str → Hp → Prop} (hj : σ[j]? = some (some (.int (n : Int)))) (hn : n ≤ 1000000) (h : ∀ t, R t H) (hs : s.length ≤ 1000 := by decide +kernel) : tJs [tC (.str s), tFmt (tVar j)] Str.empty σ H R := by
  have e : ∀ t : Str, Str.empty ++ t = t := fun t => by
    show (⟨#[] ++ t.cps⟩ : Str) = t
    simp
  have al : ∀ a b : Str, (a ++ b).length = a.length + b.length := fun a b => by
    show (a.cps ++ b.cps).size = _
    rw [Array.size_append]
    rfl
  have hz := sizeLine_eq
  have hl := num_len (i := (n : Int)) (by omega) (by omega)
  refine ⟨s, rfl, by rw [e]; omega, _, hj, .inr ⟨(n : Int), rfl, ?_, _, rfl, ?_, h _⟩⟩
  · rw [Int.natAbs_natCast]
    exact Nat.lt_of_le_of_lt (show n.log2 ≤ 20 from by
      by_cases h0 : n = 0
      · subst h0; decide
      · exact Nat.lt_succ_iff.mp ((Nat.log2_lt h0).mpr (by omega))) (by decide)
  · rw [e, al]
    have : (Str.ofString (toString (n : Int))).length ≤ 7 := hl
    omega
section
variable {P : Program} {w : World} {K : PySem.W.Frag} {mg : Str → Option Value} {base : Heap}
/-- NoText(where) in the making -/
def spNoText (T : Tx K mg) : Sp := fun vs H Q _ => ∃ (a : Addr) (n : Nat), vs = [.ref a, .int (n : Int)] ∧ n ≤ 1000000 ∧ H a = some (exo a T.a_NoText none) ∧ ∀ dx, H dx = none → dx ≠ a → Q .non (upd (upd H dx (exd dx [("where", .int (n : Int))])) a (exo a T.a_NoText (some dx)))
theorem ok_NoText_init (T : Tx K mg) : FnOk P w K mg base CX0 1 T.f_NoText_init T.d_NoText_init ["self", "where"] (spNoText T) := by
  refine T.F_NoText_init.ok sc_NoText_init (fun vs H Q E h => ?_) (fun cdv A outer s H vs Q E hr h => ?_)
  · obtain ⟨a, n, rfl, _⟩ := h
    rfl
  · obtain ⟨a, n, rfl, hn, ha, q⟩ := h
    refine ⟨_, (pss_cons (ps_expr ((pe_hinit rfl T.c_HoldError T.hd_HoldError (pa_cons (pv 0) (pa_cons (pe_joined (PJ.cons pe_str (PJ.cons (pe_fmt (pv 1)) PJ.nil))) pa_nil)))))
      (pss_one ((ps_ost (pv 0) (pv 1))))), ?_⟩
    have hsz := sizeLine_eq
    walk_at "sy"
    refine w_vei ?_
    walk_at "sy"
    refine w_jsI (n := n) rfl hn (fun t => ?_) (by decide +kernel)
    walk_at "sy"
    refine ⟨a, T.a_NoText, _, rfl, by simp, T.ox_NoText, ha, ?_⟩
    walk_at "sy"
    refine w_ost ?_
    walk_at "sy"
    exact ⟨a, T.a_NoText, rfl, T.ox_NoText, T.xa_NoText_where, .inl ⟨ha, fun dx h1 h2 => q dx h1 h2⟩⟩
def cutH (F : List Addr) (H : Hp) : Hp := fun a => if a ∈ F then none else H a
theorem cutH_own {H0 H : Hp} {L : Reg} (o : Own H0 H L) : Own (cutH (keys L) H) H L := ⟨fun b u e => by
  unfold cutH at e
  by_cases h : b ∈ keys L
  · rw [if_pos h] at e; cases e
  · rw [if_neg h] at e; exact e, o.all, o.nd, fun a ha => by unfold cutH; rw [if_pos ha]⟩
theorem cutH_in {F : List Addr} {H : Hp} {a : Addr} {o : HO} (h : H a = some o) (n : a ∉ F) : cutH F H a = some o := by
  unfold cutH
  rw [if_neg n]
  exact h
theorem cutH_same {H0 H : Hp} {L : Reg} (o : Own H0 H L) : Same H0 (cutH (keys L) H) := fun b u e => cutH_in (o.same _ _ e) fun h => by
  rw [o.fresh b h] at e
  cases e
theorem RAt.cut {T : Tx K mg} {H0 H : Hp} {R : RP} {st : RS} (M : RAt T H0 H R st) : RAt T (cutH (keys (rReg T R st)) H) H R st := ⟨cutH_own M.own, M.rcs, M.hel, M.hd, M.blk⟩
/-- none of these is the reader's -/
theorem RAt.not {T : Tx K mg} {H0 H1 H : Hp} {R : RP} {st : RS} (M : RAt T H0 H1 R st) (s : Same H1 H) {a : Addr} (h : H1 a = none) : a ∉ keys (rReg T R st) := fun z => by
  obtain ⟨u, hu⟩ := M.own.alive z
  rw [h] at hu
  cases hu
theorem drop_get {α : Type} {L : List α} {i : Nat} {x : α} (h : L[i]? = some x) : L.drop i = x :: L.drop (i + 1) := by
  obtain ⟨hi, e⟩ := List.getElem?_eq_some_iff.mp h
  rw [List.drop_eq_getElem_cons hi, e]
theorem words_le {l : Str} (h : l.length ≤ 50000) : (wordsOf l).length ≤ 100000 ∧ ∀ w ∈ wordsOf l, w.length ≤ 100000 := by
  have hw := PyProof.Rows.split_weight l bS (by decide +kernel)
  refine ⟨?_, fun w hm => ?_⟩
  · have := List.length_filter_le (fun w => decide (w ≠ eS)) (Txt.split l bS)
    show (List.filter _ _).length ≤ _
    omega
  · have := len_le_sum (List.mem_filter.mp hm).1
    omega
def readN (W : List (List Str)) : (List El × List El) ⊕ Nat := match readF W 0 RS.start with
  | .inr k => .inr k
  | .inl st => if st.begun = none ∧ st.hels ≠ [] then .inl (st.recs, st.hels) else .inr W.length
def tNo (C : Addr) (sp : Sp) (n : Nat) (H1 : Hp) (E : XK) : Prop := [V.int (n : Int)].length ≤ 1000 ∧ ∀ a, H1 a = none → sp (.ref a :: ([V.int (n : Int)] ++ [])) (upd H1 a (exo a C none))
  (fun v H2 => v = .non ∧ ∃ (d : Addr) (fs : List (Str × V)), H2 a = some (exo a C (some d)) ∧ H2 d = some (exd d fs) ∧ H1 d = none ∧ E (.ref C) (some d) (upd (del H2 a) d (.xd fs))) (fun _ _ _ => False)
abbrev whereF (n : Nat) : List (Str × V) := [("where", .int (n : Int))]
def spRead (T : Tx K mg) : Sp := fun vs H Q E => ∃ (s : Str), vs = [.str s] ∧ s.length ≤ 16000000 ∧ (Txt.split s (Str.ofString "\n")).length ≤ 900000 ∧ (∀ l ∈ Txt.split s (Str.ofString "\n"), l.length ≤ 50000 ∧ strL (wordsOf l)) ∧
  (∀ rs hs H' x, readN ((Txt.split s (Str.ofString "\n")).map wordsOf) = .inl (rs, hs) → Same H H' → ProgAtE T H' x rs hs → Q (.ref x) H') ∧
  ∀ n H' d, readN ((Txt.split s (Str.ofString "\n")).map wordsOf) = .inr n → Same H H' → H' d = some (.xd (whereF n)) → E (.ref T.a_NoText) (some d) H'
theorem ok_read (T : Tx K mg) : FnOk P w K mg base (L2.CX P w) 10 T.f_read T.d_read ["text"] (spRead T) := by
  refine T.F_read.okX sc_read (fun vs H Q E h => ?_) (fun cdv A outer s H vs Q E hr h => ?_)
  · obtain ⟨s, rfl, _⟩ := h
    rfl
  · obtain ⟨z, rfl, hz, hzl, hls, q1, q2⟩ := h
    refine ⟨_, (pss_cons (ps_set (i := 1) sc_read.nd rfl (Or.inl rfl) (pe_make0 T.Mk_Reader (ok_Reader_init T) (hr.mono (by omega)) rfl T.c_Reader T.B_Reader_init .nil pass0))
      (pss_cons (ps_set (i := 2) sc_read.nd rfl (Or.inl rfl) (pe_split (pv 0) pe_str))
      (pss_cons (ps_for (passes_of rfl) rfl (pi_enum (by rfl) T.n_enumerate (pa_cons (pv 2) pa_nil)) (pg_tup rfl (pgs_cons (pg_name (i := 3) sc_read.nd rfl (Or.inl rfl)) (pgs_cons (pg_name (i := 4) sc_read.nd rfl (Or.inl rfl)) pgs_nil)))
        (pss_cons (ps_setLc (i := 5) (own := [("word", 6)]) (g := gName 6) rfl sc_read.nd rfl rfl (sw_true rfl rfl rfl (by decide +kernel)) (pi_listK (K := K) rfl (pe_split (pv 4) pe_str)) (blkOk_by (own := [("word", 6)]) (N := ["text", "reader", "lines", "number", "line", "words", "word"]) (sc := defScope s_read) (by decide +kernel)) (fun _ _ _ _ _ => pg_name (i := 6) sc_read.nd rfl (Or.inl rfl)) (fun _ _ _ _ _ => (pts_one (pt_cmpR op_ne (pv 6) pe_str (nomark _)))) (fun _ _ _ _ _ => (pv 6)))
        (pss_one (ps_if (PW.pt (pw_and (pt_cmpR (op_neNil hr.units) (pv 5) (pe_lst pa_nil) (nomark _)) (pw_and1 (pt_not (pt_val (pe_meth (pv 1) T.cl_Reader T.M_Reader_good (ok_Reader_good T) (hr.mono (by omega)) T.B_Reader_good .nil pass0 (pa_cons (pv 5) pa_nil)))))))
          (pss_one (ps_raise rfl (takes_of rfl rfl rfl rfl) (pmk_oex T.ox_NoText T.iC_NoText T.tI_NoText (ok_NoText_init T) (hr.mono (by omega)) T.B_NoText_init .nil pass0 rfl T.c_NoText (pa_cons (pv 3) pa_nil))))
          pss_nil))))
      (pss_cons (ps_if (PW.pt (pw_or (pt_cmp (pc_notN (fldK (K := K) rfl (pv 1) rfl))) (pw_or1 (pt_cmpR (op_eqNil hr.units) (fldK (K := K) rfl (pv 1) rfl) (pe_lst pa_nil) (nomark _)))))
        (pss_one (ps_raise rfl (takes_of rfl rfl rfl rfl) (pmk_oex T.ox_NoText T.iC_NoText T.tI_NoText (ok_NoText_init T) (hr.mono (by omega)) T.B_NoText_init .nil pass0 rfl T.c_NoText (pa_cons (pe_callB (len_seqK (K := K) rfl) (by rfl) T.n_len PySem.boot_len (pa_cons (pv 2) pa_nil)) pa_nil))))
        pss_nil)
      (pss_one (ps_ret (pe_make T.Mk_Program (ok_Program_initL T) (hr.mono (by omega)) rfl T.c_Program T.B_Program_init .nil pass0 (pa_cons (fldK (K := K) rfl (pv 1) rfl) (pa_cons (fldK (K := K) rfl (pv 1) rfl) pa_nil))))))))), ?_⟩
    have hsz := sizeLine_eq
    have ccl := T.cl_Reader
    have nr0 := T.na_Reader_records
    have nr1 := T.na_Reader_helpers
    have nr2 := T.na_Reader_begun
    have nr3 := T.na_Reader_blocks
    have nr4 := T.na_Reader_points
    have bcl := T.cl_Block
    have nb0 := T.na_Block_word
    have nb1 := T.na_Block_atom
    have nb2 := T.na_Block_rows
    have nb3 := T.na_Block_others
    have nb4 := T.na_Block_beyond
    have zs := PyProof.Rows.split_weight z (Str.ofString "\n") (by decide +kernel)
    walk_at "sy"
    rename_i x dx lr lh lb H1 ow sm
    refine ⟨z, Str.ofString "\n", rfl, rfl, by decide +kernel, by omega, w_newStrs fun pl H2 n2 => ?_⟩
    have n2 : New pl (.lst ((Txt.split z (Str.ofString "\n")).map V.str)) H1 H2 := n2
    have M0 : RAt T H H1 ⟨x, dx, lr, lh, lb, [], [], none, []⟩ RS.start := ⟨ow, rfl, rfl, trivial, trivial⟩
    have npl : pl ∉ keys (rReg T ⟨x, dx, lr, lh, lb, [], [], none, []⟩ RS.start) := M0.not (Same.refl _) n2.free
    have M2 := M0.step n2.same
    obtain ⟨Hb, eHb⟩ : ∃ Hb, Hb = cutH (keys (rReg T ⟨x, dx, lr, lh, lb, [], [], none, []⟩ RS.start)) H2 := ⟨_, rfl⟩
    have Mb : RAt T Hb H2 ⟨x, dx, lr, lh, lb, [], [], none, []⟩ RS.start := by rw [eHb]; exact M2.cut
    have sHb : Same H Hb := by rw [eHb]; exact cutH_same M2.own
    have hpl : Hb pl = some (.lst ((Txt.split z (Str.ofString "\n")).map V.str)) := by rw [eHb]; exact cutH_in n2.at_ npl
    have a2 := n2.at_
    walk_at "sy"
    refine k_forE ((Txt.split z (Str.ofString "\n")).map V.str) (fun i σ Hx => ∃ (v3 v4 v5 : Option V) (R : RP) (st : RS), σ = [some (.str z), some (.ref x), some (.ref pl), v3, v4, v5, none] ∧ R.x = x ∧ RAt T Hb Hx R st ∧ RSok st ∧ readF (((Txt.split z (Str.ofString "\n")).map wordsOf).drop i) i st = readF ((Txt.split z (Str.ofString "\n")).map wordsOf) 0 RS.start)
      ⟨none, none, none, _, RS.start, rfl, rfl, Mb, RSok.start, rfl⟩ (fun i σ Hx _ h => ?_) ?_ ?_
    · obtain ⟨v3, v4, v5, R, st, rfl, _, M, _⟩ := h
      exact SqL.of (M.own.same _ _ hpl)
    · rintro i v σ Hx H3 Tp hv ⟨v3, v4, v5, R, st, rfl, hRx, M, ok, hread⟩ nT
      obtain ⟨l, hl, rfl⟩ := map_at hv
      obtain ⟨ll, lst⟩ := hls l (List.mem_of_getElem? hl)
      have aT := nT.at_
      walk_at "sy"
      refine ⟨l, bS, rfl, rfl, by decide +kernel, by omega, w_newStrs fun pp H4 n4 => ?_⟩
      have n4 : New pp (.lst ((Txt.split l bS).map V.str)) H3 H4 := n4
      have a4 := n4.at_
      have hw4 := PyProof.Rows.split_weight l bS (by decide +kernel)
      walk_at "sy"
      refine k_lcL ((Txt.split l bS).map V.str) (fun D i Hy => Same H4 Hy ∧ Hy D = some (.lst ((((Txt.split l bS).take i).filter fun w => decide (w ≠ eS)).map V.str))) (fun D Hy n => ⟨n.same, n.at_⟩) (fun D i Hy _ h => SqL.of (h.1 _ _ n4.at_)) ?_ ?_
      · rintro D hD i v Hy hx ⟨sy, hDy⟩
        obtain ⟨w', hw', rfl⟩ := map_at hx
        have hwl := List.length_filter_le (fun w => decide (w ≠ eS)) ((Txt.split l bS).take i)
        rw [List.length_take] at hwl
        by_cases he : w' = Str.ofString ""
        · walk_at "sy"
          refine ⟨sy, ?_⟩
          rw [take_snoc hw', List.filter_append, show [w'].filter (fun w => decide (w ≠ eS)) = [] from by rw [he]; rfl, List.append_nil]
          exact hDy
        · walk_at "sy"
          rename_i H6 c6
          refine ⟨c6.sameOwn sy hD, ?_⟩
          rw [take_snoc hw', List.filter_append, show [w'].filter (fun w => decide (w ≠ eS)) = [w'] from by rw [List.filter_cons, if_pos (show decide (w' ≠ eS) = true from decide_eq_true he)]; rfl, List.map_append]
          exact c6.at_
      rintro D hD Hz ⟨sz, hDz⟩
      rw [List.length_map, List.take_length] at hDz
      have hDz : Hz D = some (.lst ((wordsOf l).map V.str)) := hDz
      have Mz := M.step (nT.same.trans (n4.same.trans sz))
      have nDk : D ∉ keys (rReg T R st) := (M.step (nT.same.trans n4.same)).not (Same.refl _) hD
      have hdr : ((Txt.split z (Str.ofString "\n")).map wordsOf).drop i = wordsOf l :: ((Txt.split z (Str.ofString "\n")).map wordsOf).drop (i + 1) := drop_get (by rw [List.getElem?_map, hl]; rfl)
      rw [hdr] at hread
      walk_at "sy"
      rename_i pn Hn nn
      have Mn := Mz.step nn.same
      have hDn := nn.get hDz
      have ww := words_le ll
      by_cases hwe : wordsOf l = []
      · refine iteBF (by rw [hwe]; rfl) ?_
        walk_at "sy"
        rw [readF, if_pos hwe] at hread
        exact ⟨_, _, _, R, st, rfl, hRx, Mn, ok, hread⟩
      · refine iteBT (by cases e : wordsOf l with | nil => exact absurd e hwe | cons _ _ => rfl) ?_
        rw [readF, if_neg hwe] at hread
        have hxn : Hn x = some (.ins T.a_Reader R.dx (fsReader (.ref R.lr) (.ref R.lh) (hV R.hd) (.ref R.lb) (.int (st.pts : Int)))) := hRx ▸ Mn.x
        walk_at "sy"
        refine ⟨cutH (keys (rReg T R st)) Hn, R, st, D, wordsOf l, by rw [hRx]; rfl, Mn.cut, ok, ⟨cutH_in hDn nDk, ww.1, ww.2⟩, lst, by cases e : wordsOf l with | nil => exact absurd e hwe | cons _ _ => simp, fun st' R' H' eg hR' M' => ?_, fun H' eg hS => ?_⟩
        · rw [eg] at hread
          walk_at "sy"
          exact ⟨_, _, _, R', st', rfl, hR'.trans hRx, M'.rebase (cutH_same Mn.own), goodF_ok ok eg, hread⟩
        · rw [eg] at hread
          have hread : .inr i = readF ((Txt.split z (Str.ofString "\n")).map wordsOf) 0 RS.start := hread
          have hil : i < (Txt.split z (Str.ofString "\n")).length := (List.getElem?_eq_some_iff.mp hl).1
          walk_at "sy"
          refine w_mkO2 ?_
          walk_at "sy"
          refine ⟨by simp, fun a ha => ⟨a, i, rfl, by omega, upd_same, fun dx h1 h2 => ?_⟩⟩
          obtain ⟨g1, g2, g3, g4⟩ := over_heap (T0 := T.a_NoText) (fs := whereF i) ha h1 h2
          exact ⟨rfl, dx, whereF i, g1, g2, g3, q2 _ _ _ (by unfold readN; rw [← hread]) (sHb.trans ((cutH_same Mn.own).trans (hS.trans g4))) upd_same⟩
    · rintro σ Hx ⟨v3, v4, v5, R, st, rfl, hRx, M, ok, hread⟩
      rw [List.length_map, List.drop_eq_nil_of_le (by rw [List.length_map]; omega)] at hread
      have hread : .inl st = readF ((Txt.split z (Str.ofString "\n")).map wordsOf) 0 RS.start := hread
      have hlr := M.lr
      have hlh := M.lh
      have hlb' := M.lb
      have hpx := M.own.same _ _ hpl
      have ail : ∀ H1, Same Hx H1 → readN ((Txt.split z (Str.ofString "\n")).map wordsOf) = .inr (Txt.split z (Str.ofString "\n")).length → tNo T.a_NoText (spNoText T) (Txt.split z (Str.ofString "\n")).length H1 E := fun H1 s1 e => by
        refine ⟨by simp, fun a ha => ⟨a, _, rfl, by omega, upd_same, fun dx h1 h2 => ?_⟩⟩
        obtain ⟨g1, g2, g3, g4⟩ := over_heap (T0 := T.a_NoText) (fs := whereF (Txt.split z (Str.ofString "\n")).length) ha h1 h2
        exact ⟨rfl, dx, whereF _, g1, g2, g3, q2 _ _ _ e (sHb.trans (M.own.same.trans (s1.trans g4))) upd_same⟩
      cases hfb : st.begun with
      | some w0 =>
        obtain ⟨h, hRh, _⟩ := M.head hfb
        have hxn : Hx x = some (.ins T.a_Reader R.dx (fsReader (.ref R.lr) (.ref R.lh) (.ref h.p) (.ref R.lb) (.int (st.pts : Int)))) := by
          have := M.x
          rw [hRx, hRh] at this
          exact this
        walk_at "sy"
        refine w_mkO2 ?_
        walk_at "sy"
        rw [List.length_map]
        exact ail _ (Same.refl _) (by unfold readN; rw [← hread]; simp [hfb])
      | none =>
        have hxn : Hx x = some (.ins T.a_Reader R.dx (fsReader (.ref R.lr) (.ref R.lh) .non (.ref R.lb) (.int (st.pts : Int)))) := by
          have := M.x
          rw [hRx, M.nohead hfb] at this
          exact this
        by_cases hfh : st.hels = []
        · have hue : R.uh.isEmpty = true := by
            have := M.hel.len
            rw [hfh] at this
            rw [List.length_eq_zero_iff.mp this]
            rfl
          walk_at "sy"
          rename_i pe He ne
          refine w_mkO2 ?_
          walk_at "sy"
          rw [List.length_map]
          exact ail _ ne.same (by unfold readN; rw [← hread]; simp [hfh])
        · have hue : R.uh.isEmpty = false := by
            have := M.hel.len
            cases e : R.uh with
            | nil =>
              rw [e] at this
              exact absurd (List.length_eq_zero_iff.mp this.symm) hfh
            | cons _ _ => rfl
          walk_at "sy"
          rename_i pe He ne x7 d7 r7 r8 H7 n7 g7 g8
          have kk : Keep (imm Hx) H7 := (KI.back Hx).trans (Keep.of (ne.same.trans n7.same))
          exact q1 st.recs st.hels H7 x7 (by unfold readN; rw [← hread]; exact if_pos ⟨hfb, hfh⟩) (sHb.trans (M.own.same.trans (ne.same.trans n7.same))) ⟨_, _, _, _, _, n7.at_, g7, ElsAt.keep kk M.rcs, g8, ElsAt.keep kk M.hel⟩
end
end
section

local macro_rules | `(tactic| walk_at "use") => `(tactic| (with_reducible refine w_chain ?_))
local macro_rules | `(tactic| walk_at "use") => `(tactic| ((with_reducible apply w_lenStr); (· omega)))
local macro_rules | `(tactic| walk_at "use") => `(tactic| (with_reducible refine w_iStr ?_))
local macro_rules | `(tactic| walk_at "use") => `(tactic| (with_reducible refine w_itS ?_))
local macro_rules | `(tactic| walk_at "use") => `(tactic| ((with_reducible refine w_GT ?_); intro a ha))
local macro_rules | `(tactic| walk_at "use") => `(tactic| ((with_reducible apply w_ninC); (· assumption)))
local macro_rules | `(tactic| walk_at "use") => `(tactic| ((with_reducible apply w_inC); (· assumption)))
local macro_rules | `(tactic| walk_at "use") => `(tactic| first
  | with_reducible refine w_fldaug ?_
  | ((with_reducible apply w_fldaug1); (· walk_at "look"); (· assumption); (· assumption); (· exact rfl))
  | ((with_reducible apply w_fldaug2); (· walk_at "look"); (· first | exact (by decide : 5 < 1000) | exact (by decide)); intro H' c)
  | with_reducible refine w_ipI ?_
  | with_reducible refine w_radd ?_
  | ((with_reducible apply w_eqNil); (· walk_at "look"); (· walk_at "look"))
  | ((with_reducible apply w_neNil); (· walk_at "look"); (· walk_at "look"))
  | ((with_reducible apply w_pop); (· walk_at "look"); (· first | assumption | exact rfl); intro H' c)
  | with_reducible refine w_iEnum ?_
  | ((with_reducible apply w_iEnum1); (· walk_at "look"))
  | with_reducible refine w_sl2 ?_
  | ((with_reducible apply w_slE); (· walk_at "look"); intro p H' n)
  | with_reducible refine w_rng3 ?_)
/-! ### reading that the kernel can run -/
def parsG : Nat → List Str → List Dt → Option (List Dt)
  | 0, ws, acc => if ws = [] then some acc else none
  | n + 1, ws, acc => if ws = [] then some acc else match parF ws with
    | none => none
    | some (d, r) => if acc.length = 6 then none else parsG n r (acc ++ [d])
theorem parsG_eq : ∀ (n : Nat) (ws : List Str) (acc : List Dt), ws.length ≤ n → parsG n ws acc = parsF ws acc
  | 0, ws, acc, h => by
    obtain rfl : ws = [] := List.length_eq_zero_iff.mp (Nat.le_zero.mp h)
    rw [parsF.eq_def]
    rfl
  | n + 1, ws, acc, h => by
    rw [parsF.eq_def, parsG]
    by_cases e : ws = []
    · rw [if_pos e, if_pos e]
    · rw [if_neg e, if_neg e]
      cases hp : parF ws with
      | none => rfl
      | some z =>
        obtain ⟨d, r⟩ := z
        have hl := parF_less hp
        show (if acc.length = 6 then none else parsG n r (acc ++ [d])) = (if acc.length = 6 then none else parsF r (acc ++ [d]))
        rw [parsG_eq n r _ (by omega)]
def headG : List Str → Option (Str × List Dt × Option Str)
  | _ :: n :: rest => if nameOk n then (match lastTwo (wS "gives") rest with
    | some g => if kindS g then (parsG rest.length (rest.take (rest.length - 2)) []).map fun ps => (n, ps, some g) else none
    | none => (parsG rest.length rest []).map fun ps => (n, ps, none)) else none
  | _ => none
theorem headG_eq (ws : List Str) : headG ws = headF ws := by
  match ws with
  | [] => rfl
  | [_] => rfl
  | w :: n :: rest =>
    show (if nameOk n then (match lastTwo (wS "gives") rest with
      | some g => if kindS g then (parsG rest.length (rest.take (rest.length - 2)) []).map fun ps => (n, ps, some g) else none
      | none => (parsG rest.length rest []).map fun ps => (n, ps, none)) else none) = (if nameOk n then (match lastTwo (wS "gives") rest with
      | some g => if kindS g then (parsF (rest.take (rest.length - 2)) []).map fun ps => (n, ps, some g) else none
      | none => (parsF rest []).map fun ps => (n, ps, none)) else none)
    rw [parsG_eq _ _ _ (Nat.le_refl _), parsG_eq _ _ _ (by rw [List.length_take]; omega)]
def withoutG (st : RS) (ws : List Str) : Option RS :=
  if ws.head? = some (wS "record") then (match recF ws with
    | some r => if st.hels = [] ∧ st.recs.length < 6 then some { st with recs := st.recs ++ [r] } else none
    | none => none)
  else if ws.head? = some (wS "helper") ∧ st.hels.length < 6 then (match headG ws with
    | some h => some { st with begun := some h, blks := [⟨wS "helper", .num 0, [], [], false⟩], pts := 0 }
    | none => none)
  else none
theorem withoutG_eq (st : RS) (ws : List Str) : withoutG st ws = withoutF st ws := by
  unfold withoutG withoutF
  rw [headG_eq] <;> rfl
/-! ### the texts of the bounds -/
def rowsBy (cell many : Nat) : Nat → Nat → List Str
  | 0, _ => []
  | f + 1, made => if made < many then
      (if made + 2 ≤ many ∧ (cell + made * made) % 5 = 0 then (if made % 2 = 0 then [wS "if x", wS "tell 1", wS "else", wS "fi"] else [wS "while 1", wS "tell 1", wS "od"]) ++ rowsBy cell many f (made + 2)
       else if made + 1 = many ∧ cell % 2 = 1 then (if cell / 2 % 2 = 0 then [wS "if x", wS "fi"] else [wS "while 1", wS "od"]) ++ rowsBy cell many f (made + 1)
       else [wS "tell 1"] ++ rowsBy cell many f (made + 1))
    else []
def endL : List Str := [wS "else", wS "fi", wS "od"]
def lastRow (ls : List Str) : Nat := ls.zipIdx.foldl (fun a e => if e.1 ∈ endL then a else e.2) 0
def pathZ (more : Nat) : Str := wS "p" ++ repS (wS ".a") (3 + more)
def pathRows (more : Nat) : List Str := [wS "get x " ++ pathZ more, wS "take x " ++ pathZ more, wS "set x has " ++ pathZ more, wS "call f 3 " ++ pathZ more, wS "put " ++ pathZ more ++ wS " 3"]
def parZ (c : Nat) : Str := if c = 0 then wS " b num" else if c = 1 then wS " b c" else wS " look b c"
def builtF (sort more cell : Nat) : List Str × Nat :=
  if sort = 0 then (List.replicate (6 + more) (wS "record a b num") ++ [wS "helper a", wS "end"], 6)
  else if sort = 1 then ([wS "record a" ++ repS (wS " b num") (4 + more), wS "helper a", wS "end"], 0)
  else if sort = 2 then ((List.replicate (6 + more) [wS "helper a", wS "end"]).flatten, 12)
  else if sort = 3 then ([wS "helper a" ++ repS (parZ (cell % 3)) (6 + more), wS "end"], 0)
  else if sort < 7 then ([wS "helper a"] ++ rowsBy cell (60 + more) (60 + more) 0 ++ [wS "end"], 1 + lastRow (rowsBy cell (60 + more) (60 + more) 0))
  else if sort < 9 then ([wS "helper a"] ++ List.replicate (8 + more) (if sort = 7 then wS "if x" else wS "while x") ++ List.replicate (8 + more) (if sort = 7 then wS "fi" else wS "od") ++ [wS "end"], 9)
  else if sort < 13 then ([wS "helper a", wS "tell 1", (pathRows more).getD ((sort - 9 + cell) % 5) eS, wS "end"], 2)
  else if sort = 13 then ([wS "helper a", wS "ask " ++ repS (wS "z") (8 + more), wS "end"], 1)
  else if sort = 14 then ([wS "helper a", wS "tell " ++ Str.ofString (toString (1000002 + (more : Int))), wS "end"], 1)
  else ([wS "record " ++ repS (wS "a") (8 + more) ++ wS " b num", wS "helper a", wS "end"], 0)
def nlW : Str := Str.ofString "\n"
def goodG (st : RS) (ws : List Str) : Option RS := match st.begun with
  | none => withoutG st ws
  | some _ => withinF st ws
theorem goodG_eq (st : RS) (ws : List Str) : goodG st ws = goodF st ws := by
  unfold goodG goodF
  cases h : st.begun with
  | none => rw [if_pos rfl, withoutG_eq]
  | some z => rw [if_neg (by simp)]
def readG : List (List Str) → Nat → RS → RS ⊕ Nat
  | [], _, st => .inl st
  | ws :: r, k, st => if ws = [] then readG r (k + 1) st else match goodG st ws with
    | some st' => readG r (k + 1) st'
    | none => .inr k
theorem readG_eq : ∀ (W : List (List Str)) (k : Nat) (st : RS), readG W k st = readF W k st
  | [], _, _ => rfl
  | ws :: r, k, st => by
    rw [readG, readF, goodG_eq]
    split
    · exact readG_eq r _ _
    · cases goodF st ws with
      | none => rfl
      | some st' => exact readG_eq r _ _
mutual
def plainE : El → Bool
  | .row _ => true
  | .iff _ rs os => plainEs rs && plainEs os
  | .whl _ rs => plainEs rs
  | _ => false
def plainEs : List El → Bool
  | [] => true
  | e :: es => plainE e && plainEs es
end
mutual
def cntE : El → Nat
  | .iff _ rs os => 1 + cntEs rs + cntEs os
  | .whl _ rs => 1 + cntEs rs
  | .hel _ _ _ rs => 1 + cntEs rs
  | _ => 1
def cntEs : List El → Nat
  | [] => 0
  | e :: es => cntE e + cntEs es
end
/-- what a text tells -/
inductive Ans where
  | bad (n : Nat)
  | good (c : List Nat)
  | odd
deriving DecidableEq
def ansOf (W : List (List Str)) : Ans := match readG W 0 RS.start with
  | .inr k => .bad k
  | .inl st => match st.begun, st.hels with
    | none, .hel _ ps _ rs :: hs => if plainEs rs then .good [st.recs.length, hs.length + 1, ps.length, cntEs rs] else .odd
    | none, _ :: _ => .odd
    | none, [] => .bad W.length
    | some _, _ => .bad W.length
theorem ans_bad {W : List (List Str)} {k : Nat} (h : ansOf W = .bad k) : readN W = .inr k := by
  unfold ansOf at h
  unfold readN
  rw [readG_eq] at h
  cases e : readF W 0 RS.start with
  | inr j =>
    rw [e] at h
    cases h
    rfl
  | inl st =>
    rw [e] at h
    dsimp only at h ⊢
    cases e1 : st.begun with
    | some b =>
      rw [e1] at h
      rw [if_neg (fun z => nomatch z.1)]
      cases h
      rfl
    | none =>
      rw [e1] at h
      cases e2 : st.hels with
      | nil =>
        rw [e2] at h
        rw [if_neg (fun z => z.2 rfl)]
        cases h
        rfl
      | cons x r =>
        rw [e2] at h
        cases x <;> first | (cases h; done) | (dsimp only at h; split at h <;> cases h)
theorem ans_good {W : List (List Str)} {c : List Nat} (h : ansOf W = .good c) : ∃ rs n ps g es hs, readN W = .inl (rs, .hel n ps g es :: hs) ∧ plainEs es = true ∧ c = [rs.length, hs.length + 1, ps.length, cntEs es] := by
  unfold ansOf at h
  unfold readN
  rw [readG_eq] at h
  cases e : readF W 0 RS.start with
  | inr j =>
    rw [e] at h
    cases h
  | inl st =>
    rw [e] at h
    dsimp only at h ⊢
    cases e1 : st.begun with
    | some b =>
      rw [e1] at h
      cases h
    | none =>
      rw [e1] at h
      cases e2 : st.hels with
      | nil =>
        rw [e2] at h
        cases h
      | cons x r =>
        rw [e2] at h
        cases x with
        | hel n ps g es =>
          dsimp only at h
          split at h
          · rename_i hp
            cases h
            exact ⟨st.recs, n, ps, g, es, r, by rw [if_pos ⟨rfl, by simp⟩], hp, rfl⟩
          · cases h
        | _ => cases h
end
section
/-! ### the texts of the bounds, as words -/
def rowsW (cell many : Nat) : Nat → Nat → List (List Str)
  | 0, _ => []
  | f + 1, made => if made < many then
      (if made + 2 ≤ many ∧ (cell + made * made) % 5 = 0 then (if made % 2 = 0 then [[wS "if", wS "x"], [wS "tell", wS "1"], [wS "else"], [wS "fi"]] else [[wS "while", wS "1"], [wS "tell", wS "1"], [wS "od"]]) ++ rowsW cell many f (made + 2)
       else if made + 1 = many ∧ cell % 2 = 1 then (if cell / 2 % 2 = 0 then [[wS "if", wS "x"], [wS "fi"]] else [[wS "while", wS "1"], [wS "od"]]) ++ rowsW cell many f (made + 1)
       else [[wS "tell", wS "1"]] ++ rowsW cell many f (made + 1))
    else []
theorem six_words : wordsOf (wS "if x") = [wS "if", wS "x"] ∧ wordsOf (wS "tell 1") = [wS "tell", wS "1"] ∧ wordsOf (wS "else") = [wS "else"] ∧ wordsOf (wS "fi") = [wS "fi"] ∧ wordsOf (wS "while 1") = [wS "while", wS "1"] ∧ wordsOf (wS "od") = [wS "od"] ∧ wordsOf (wS "helper a") = [wS "helper", wS "a"] ∧ wordsOf (wS "end") = [wS "end"] := by
  refine ⟨?_, ?_, ?_, ?_, ?_, ?_, ?_, ?_⟩ <;> decide +kernel
theorem rowsBy_words (cell many : Nat) : ∀ f made, (rowsBy cell many f made).map wordsOf = rowsW cell many f made
  | 0, _ => rfl
  | f + 1, made => by
    obtain ⟨w1, w2, w3, w4, w5, w6, _⟩ := six_words
    rw [rowsBy, rowsW]
    by_cases h1 : made < many
    · rw [if_pos h1, if_pos h1]
      by_cases h2 : made + 2 ≤ many ∧ (cell + made * made) % 5 = 0
      · rw [if_pos h2, if_pos h2, List.map_append, rowsBy_words cell many f]
        by_cases h3 : made % 2 = 0
        · rw [if_pos h3, if_pos h3]
          simp only [List.map_cons, List.map_nil, w1, w2, w3, w4]
        · rw [if_neg h3, if_neg h3]
          simp only [List.map_cons, List.map_nil, w5, w2, w6]
      · rw [if_neg h2, if_neg h2]
        by_cases h4 : made + 1 = many ∧ cell % 2 = 1
        · rw [if_pos h4, if_pos h4, List.map_append, rowsBy_words cell many f]
          by_cases h3 : cell / 2 % 2 = 0
          · rw [if_pos h3, if_pos h3]
            simp only [List.map_cons, List.map_nil, w1, w4]
          · rw [if_neg h3, if_neg h3]
            simp only [List.map_cons, List.map_nil, w5, w6]
        · rw [if_neg h4, if_neg h4, List.map_append, rowsBy_words cell many f]
          simp only [List.map_cons, List.map_nil, w2]
    · rw [if_neg h1, if_neg h1]
      rfl
def sixL : List Str := [wS "if x", wS "tell 1", wS "else", wS "fi", wS "while 1", wS "od"]
theorem rowsBy_six (cell many : Nat) : ∀ f made, (∀ l ∈ rowsBy cell many f made, l ∈ sixL) ∧ (rowsBy cell many f made).length ≤ 4 * f
  | 0, _ => ⟨fun l h => (by cases h), by simp [rowsBy]⟩
  | f + 1, made => by
    have two : ∀ (A : List Str) (m : Nat), (∀ l ∈ A, l ∈ sixL) → A.length ≤ 4 → (∀ l ∈ A ++ rowsBy cell many f m, l ∈ sixL) ∧ (A ++ rowsBy cell many f m).length ≤ 4 * (f + 1) := fun A m h1 h2 => by
      obtain ⟨g1, g2⟩ := rowsBy_six cell many f m
      refine ⟨fun l h => ?_, by rw [List.length_append]; omega⟩
      rcases List.mem_append.mp h with h | h
      · exact h1 l h
      · exact g1 l h
    rw [rowsBy]
    split
    · split
      · split
        · exact two _ _ (by decide +kernel) (by decide)
        · exact two _ _ (by decide +kernel) (by decide)
      · split
        · split
          · exact two _ _ (by decide +kernel) (by decide)
          · exact two _ _ (by decide +kernel) (by decide)
        · exact two _ _ (by decide +kernel) (by decide)
    · exact ⟨fun l h => (by cases h), by simp⟩
theorem rowsBy_mod (cell many : Nat) : ∀ f made, rowsBy cell many f made = rowsBy (cell % 20) many f made
  | 0, _ => rfl
  | f + 1, made => by
    rw [rowsBy, rowsBy, rowsBy_mod cell many f, rowsBy_mod cell many f, show (cell % 20 + made * made) % 5 = (cell + made * made) % 5 by omega, show cell % 20 % 2 = cell % 2 by omega, show cell % 20 / 2 % 2 = cell / 2 % 2 by omega]
def lineB (l : Str) : Bool := decide (l.length ≤ 100) && (!((TL.tl l).contains 10) && (wordsOf l).all fun w => PyData.strOk w)
def linesB (ls : List Str) : Bool := decide (ls ≠ []) && (decide (ls.length ≤ 300) && ls.all lineB)
def rowsN (ls : List Str) : Nat := ((ls.drop 1).filter fun l => decide (l ∉ [wS "else", wS "fi", wS "od", wS "end"])).length
def dueF (sort : Nat) (rows : Nat) : List Nat := if sort = 0 then [6, 1, 0, 0] else if sort = 1 then [1, 1, 0, 0] else if sort = 2 then [0, 6, 0, 0] else if sort = 3 then [0, 1, 6, 0] else if sort < 15 then [0, 1, 0, rows] else [1, 1, 0, 0]
def chk (sort cell : Nat) : Bool :=
  let b := builtF sort 1 cell
  let g := builtF sort 0 cell
  linesB b.1 && (linesB g.1 && (decide (ansOf (b.1.map wordsOf) = .bad b.2) && decide (ansOf (g.1.map wordsOf) = .good (dueF sort (rowsN g.1)))))
def chkR (cell : Nat) : Bool := decide (ansOf ([[wS "helper", wS "a"]] ++ rowsW cell 61 61 0 ++ [[wS "end"]]) = .bad (1 + lastRow (rowsBy cell 61 61 0))) && decide (ansOf ([[wS "helper", wS "a"]] ++ rowsW cell 60 60 0 ++ [[wS "end"]]) = .good [0, 1, 0, rowsN ([wS "helper a"] ++ rowsBy cell 60 60 0 ++ [wS "end"])])
theorem chkR_0 : ∀ c < 5, chkR c = true := by decide +kernel
theorem chkR_1 : ∀ c < 5, chkR (5 + c) = true := by decide +kernel
theorem chkR_2 : ∀ c < 5, chkR (10 + c) = true := by decide +kernel
theorem chkR_3 : ∀ c < 5, chkR (15 + c) = true := by decide +kernel
theorem chkR_all (c : Nat) (h : c < 20) : chkR c = true := by
  by_cases h1 : c < 5
  · exact chkR_0 c h1
  by_cases h2 : c < 10
  · have := chkR_1 (c - 5) (by omega)
    rwa [show 5 + (c - 5) = c by omega] at this
  by_cases h3 : c < 15
  · have := chkR_2 (c - 10) (by omega)
    rwa [show 10 + (c - 10) = c by omega] at this
  · have := chkR_3 (c - 15) (by omega)
    rwa [show 15 + (c - 15) = c by omega] at this
theorem six_ok : (∀ l ∈ wS "helper a" :: wS "end" :: sixL, lineB l = true) := by decide +kernel
theorem chk_rows (sort cell : Nat) (h1 : 4 ≤ sort) (h2 : sort < 7) : chk sort cell = true := by
  have eb : ∀ more, builtF sort more cell = ([wS "helper a"] ++ rowsBy (cell % 20) (60 + more) (60 + more) 0 ++ [wS "end"], 1 + lastRow (rowsBy (cell % 20) (60 + more) (60 + more) 0)) := fun more => by
    unfold builtF
    rw [if_neg (by omega), if_neg (by omega), if_neg (by omega), if_neg (by omega), if_pos h2, ← rowsBy_mod]
  have lb : ∀ c f, f ≤ 61 → linesB ([wS "helper a"] ++ rowsBy c f f 0 ++ [wS "end"]) = true := fun c f hf => by
    obtain ⟨g1, g2⟩ := rowsBy_six c f f 0
    unfold linesB
    rw [Bool.and_eq_true, Bool.and_eq_true]
    refine ⟨decide_eq_true (by simp), decide_eq_true (by simp only [List.length_append, List.length_cons, List.length_nil]; omega), List.all_eq_true.mpr fun l hl => ?_⟩
    simp only [List.mem_append, List.mem_cons, List.not_mem_nil, or_false] at hl
    rcases hl with (rfl | h) | rfl
    · exact six_ok _ (List.mem_cons_self ..)
    · exact six_ok _ (List.mem_cons_of_mem _ (List.mem_cons_of_mem _ (g1 l h)))
    · exact six_ok _ (List.mem_cons_of_mem _ (List.mem_cons_self ..))
  have wd : ∀ c f, ([wS "helper a"] ++ rowsBy c f f 0 ++ [wS "end"]).map wordsOf = [[wS "helper", wS "a"]] ++ rowsW c f f 0 ++ [[wS "end"]] := fun c f => by
    obtain ⟨_, _, _, _, _, _, w7, w8⟩ := six_words
    rw [List.map_append, List.map_append, rowsBy_words]
    simp only [List.map_cons, List.map_nil, w7, w8]
  have hr := chkR_all (cell % 20) (Nat.mod_lt _ (by decide))
  unfold chkR at hr
  rw [Bool.and_eq_true] at hr
  unfold chk
  rw [eb 1, eb 0]
  show (linesB _ && (linesB _ && (decide (ansOf (([wS "helper a"] ++ rowsBy (cell % 20) 61 61 0 ++ [wS "end"]).map wordsOf) = .bad (1 + lastRow (rowsBy (cell % 20) 61 61 0))) && decide (ansOf (([wS "helper a"] ++ rowsBy (cell % 20) 60 60 0 ++ [wS "end"]).map wordsOf) = .good (dueF sort (rowsN ([wS "helper a"] ++ rowsBy (cell % 20) 60 60 0 ++ [wS "end"]))))))) = true
  rw [wd, wd, Bool.and_eq_true, Bool.and_eq_true, Bool.and_eq_true]
  refine ⟨lb _ _ (by omega), lb _ _ (by omega), hr.1, ?_⟩
  rw [show dueF sort (rowsN ([wS "helper a"] ++ rowsBy (cell % 20) 60 60 0 ++ [wS "end"])) = [0, 1, 0, rowsN ([wS "helper a"] ++ rowsBy (cell % 20) 60 60 0 ++ [wS "end"])] from by
    unfold dueF
    rw [if_neg (by omega), if_neg (by omega), if_neg (by omega), if_neg (by omega), if_pos (by omega)]]
  exact hr.2
theorem chk_3 : ∀ c < 3, chk 3 c = true := by decide +kernel
theorem chk_9 : ∀ c < 5, chk 9 c = true := by decide +kernel
theorem chk_ones : chk 0 0 = true ∧ chk 1 0 = true ∧ chk 2 0 = true ∧ chk 7 0 = true ∧ chk 8 0 = true ∧ chk 13 0 = true ∧ chk 14 0 = true ∧ chk 15 0 = true := by
  refine ⟨?_, ?_, ?_, ?_, ?_, ?_, ?_, ?_⟩ <;> decide +kernel
theorem built_s3 (more cell : Nat) : builtF 3 more cell = ([wS "helper a" ++ repS (parZ (cell % 3)) (6 + more), wS "end"], 0) := by
  unfold builtF
  rw [if_neg (show ¬ (3 = 0) by decide), if_neg (show ¬ (3 = 1) by decide), if_neg (show ¬ (3 = 2) by decide), if_pos rfl]
theorem built_3 (more cell : Nat) : builtF 3 more cell = builtF 3 more (cell % 3) := by
  rw [built_s3, built_s3, Nat.mod_mod]
theorem chk_like {sort cell sort2 cell2 : Nat} (e1 : ∀ more, builtF sort more cell = builtF sort2 more cell2) (e2 : ∀ r, dueF sort r = dueF sort2 r) : chk sort cell = chk sort2 cell2 := by
  unfold chk
  simp only [e1, e2]
theorem built_free (sort more cell : Nat) (h3 : sort ≠ 3) (h4 : ¬ (4 ≤ sort ∧ sort < 7)) (h9 : ¬ (9 ≤ sort ∧ sort < 13)) : builtF sort more cell = builtF sort more 0 := by
  unfold builtF
  by_cases a0 : sort = 0
  · simp only [if_pos a0]
  simp only [if_neg a0]
  by_cases a1 : sort = 1
  · simp only [if_pos a1]
  simp only [if_neg a1]
  by_cases a2 : sort = 2
  · simp only [if_pos a2]
  simp only [if_neg a2, if_neg h3]
  have a7 : ¬ sort < 7 := by omega
  simp only [if_neg a7]
  by_cases a9 : sort < 9
  · simp only [if_pos a9]
  have a13 : ¬ sort < 13 := by omega
  simp only [if_neg a9, if_neg a13]
theorem chk_all (sort cell : Nat) (h : sort < 16) : chk sort cell = true := by
  obtain ⟨k0, k1, k2, k7, k8, k13, k14, k15⟩ := chk_ones
  by_cases h4 : 4 ≤ sort ∧ sort < 7
  · exact chk_rows sort cell h4.1 h4.2
  by_cases h9 : 9 ≤ sort ∧ sort < 13
  · have e := chk_9 ((sort - 9 + cell) % 5) (Nat.mod_lt _ (by decide))
    rw [← e]
    refine chk_like (fun more => ?_) (fun r => ?_)
    · unfold builtF
      rw [if_neg (by omega), if_neg (by omega), if_neg (by omega), if_neg (by omega), if_neg (by omega), if_neg (by omega), if_pos (by omega)]
      rw [if_neg (by omega), if_neg (by omega), if_neg (by omega), if_neg (by omega), if_neg (by omega), if_neg (by omega), if_pos (by omega), show (9 - 9 + (sort - 9 + cell) % 5) % 5 = (sort - 9 + cell) % 5 by omega]
    · unfold dueF
      rw [if_neg (by omega), if_neg (by omega), if_neg (by omega), if_neg (by omega), if_pos (by omega)]
      rfl
  by_cases h3 : sort = 3
  · subst h3
    have e := chk_3 (cell % 3) (Nat.mod_lt _ (by decide))
    rw [← e]
    exact chk_like (fun more => built_3 more cell) (fun r => rfl)
  rw [chk_like (sort2 := sort) (cell2 := 0) (fun more => built_free sort more cell h3 h4 h9) (fun r => rfl)]
  rcases (by omega : sort = 0 ∨ sort = 1 ∨ sort = 2 ∨ sort = 7 ∨ sort = 8 ∨ sort = 13 ∨ sort = 14 ∨ sort = 15) with rfl | rfl | rfl | rfl | rfl | rfl | rfl | rfl
  · exact k0
  · exact k1
  · exact k2
  · exact k7
  · exact k8
  · exact k13
  · exact k14
  · exact k15
end
section

local macro_rules | `(tactic| walk_at "use") => `(tactic| (with_reducible refine w_chain ?_))
local macro_rules | `(tactic| walk_at "use") => `(tactic| ((with_reducible apply w_lenStr); (· omega)))
local macro_rules | `(tactic| walk_at "use") => `(tactic| (with_reducible refine w_iStr ?_))
local macro_rules | `(tactic| walk_at "use") => `(tactic| (with_reducible refine w_itS ?_))
local macro_rules | `(tactic| walk_at "use") => `(tactic| ((with_reducible refine w_GT ?_); intro a ha))
local macro_rules | `(tactic| walk_at "use") => `(tactic| ((with_reducible apply w_ninC); (· assumption)))
local macro_rules | `(tactic| walk_at "use") => `(tactic| ((with_reducible apply w_inC); (· assumption)))
local macro_rules | `(tactic| walk_at "use") => `(tactic| first
  | with_reducible refine w_fldaug ?_
  | ((with_reducible apply w_fldaug1); (· walk_at "look"); (· assumption); (· assumption); (· exact rfl))
  | ((with_reducible apply w_fldaug2); (· walk_at "look"); (· first | exact (by decide : 5 < 1000) | exact (by decide)); intro H' c)
  | with_reducible refine w_ipI ?_
  | with_reducible refine w_radd ?_
  | ((with_reducible apply w_eqNil); (· walk_at "look"); (· walk_at "look"))
  | ((with_reducible apply w_neNil); (· walk_at "look"); (· walk_at "look"))
  | ((with_reducible apply w_pop); (· walk_at "look"); (· first | assumption | exact rfl); intro H' c)
  | with_reducible refine w_iEnum ?_
  | ((with_reducible apply w_iEnum1); (· walk_at "look"))
  | with_reducible refine w_sl2 ?_
  | ((with_reducible apply w_slE); (· walk_at "look"); intro p H' n)
  | with_reducible refine w_rng3 ?_)
section
variable {P : Program} {w : World} {K : PySem.W.Frag} {mg : Str → Option Value} {base : Heap}
def spRowsBy : Sp := fun vs H Q _ => ∃ (many cell : Nat), vs = [.int (many : Int), .int (cell : Int)] ∧ many ≤ 100 ∧ cell ≤ 1000 ∧ ∀ p H', Same H H' → H' p = some (.lst ((rowsBy cell many many 0).map V.str)) → Q (.ref p) H'
theorem rowsBy_end (cell many f made : Nat) (h : ¬ made < many) : rowsBy cell many f made = [] := by
  cases f with
  | zero => rfl
  | succ f => rw [rowsBy, if_neg h]
def invRB (H : Hp) (many cell : Nat) (f : Nat) (σ : L2.St) (Hx : Hp) : Prop := ∃ (i : Int) (made : Nat) (v4 : Option V) (q : Addr) (acc : List Str), σ = [some (.int (many : Int)), some (.int (cell : Int)), some (.ref q), some (.int i), v4] ∧ i = (made : Int) ∧ Same H Hx ∧ H q = none ∧ Hx q = some (.lst (acc.map V.str)) ∧ acc.length ≤ 4 * made ∧ made ≤ many ∧ many ≤ made + f ∧ acc ++ rowsBy cell many f made = rowsBy cell many many 0
theorem rb_pred (cell many f made : Nat) (h : many ≤ made + (f - 1)) : rowsBy cell many f made = rowsBy cell many (f - 1) made := by
  by_cases h0 : f = 0
  · subst h0
    rfl
  · by_cases h1 : made < many
    · have e : ∀ f m, many ≤ m + f → rowsBy cell many (f + 1) m = rowsBy cell many f m := fun f => by
        induction f with
        | zero =>
          intro m hm
          exact rowsBy_end _ _ _ _ (by omega)
        | succ f ih =>
          intro m hm
          rw [rowsBy, rowsBy.eq_def cell many (f + 1) m]
          dsimp only
          rw [ih (m + 2) (by omega), ih (m + 1) (by omega)]
      have := e (f - 1) made h
      rwa [show f - 1 + 1 = f by omega] at this
    · rw [rowsBy_end _ _ _ _ h1, rowsBy_end _ _ _ _ h1]
theorem w_ninT {K : PySem.W.Frag} {H : Hp} {Q : VK} {x : V} {p : Addr} {xs : List V} (a : H p = some (.tup xs)) (f : flatV x = true) (g : xs.all flatV = true) (h : Q (.bl (!inV x xs)) H) : rIn K true x (.ref p) H Q := ⟨p, xs, rfl, .inr (SqT.of a), f, g, h⟩
theorem at2a {a b : V} {i : Int} (h : i = 0) : atI [a, b] i = some a := by subst h; rfl
theorem at2b {a b : V} {i : Int} (h : i = 1) : atI [a, b] i = some b := by subst h; rfl
theorem ok_l_rows_by (T : Tx K mg) : FnOk P w K mg base CX0 1 T.f_l_rows_by T.d_l_rows_by ["_law_many", "_law_cell"] spRowsBy := by
  refine T.F_l_rows_by.ok sc_l_rows_by (fun vs H Q E h => ?_) (fun cdv A outer s H vs Q E hr h => ?_)
  · obtain ⟨many, cell, rfl, _⟩ := h
    rfl
  · obtain ⟨many, cell, rfl, hm, hc, q⟩ := h
    refine ⟨_, (pss_cons (ps_set (i := 2) sc_l_rows_by.nd rfl (Or.inl rfl) (pe_lst pa_nil))
      (pss_cons (ps_set (i := 3) sc_l_rows_by.nd rfl (Or.inl rfl) pe_int)
      (pss_cons (ps_while PassesOwn.never (pt_cmpR op_lt (pv 3) (pv 0) (nomark _))
        (pss_cons (ps_set (i := 4) sc_l_rows_by.nd rfl (Or.inl rfl) (pe_and (pe_cmpR op_le (pe_op op_add (pv 3) pe_int) (pv 0) (nomark _)) (pe_one (pe_cmpR op_eq (pe_op op_mod (pe_op op_add (pv 1) (pe_op op_mul (pv 3) (pv 3))) pe_int) pe_int (nomark _)))))
        (pss_cons (ps_if (pt_val (pv 4))
          (pss_one (ps_set (i := 2) sc_l_rows_by.nd rfl (Or.inl rfl) (pe_op op_cat (pe_op op_cat (pv 2) (pe_lst (pa_cons (pe_ix (ix_listK (K := K) rfl) (pe_lst (pa_cons pe_str (pa_cons pe_str pa_nil))) (pe_op op_mod (pv 3) pe_int) (fun _ _ => rfl)) (pa_cons pe_str pa_nil)))) (pe_ix (ix_listK (K := K) rfl) (pe_lst (pa_cons (pe_lst (pa_cons pe_str (pa_cons pe_str pa_nil))) (pa_cons (pe_lst (pa_cons pe_str pa_nil)) pa_nil))) (pe_op op_mod (pv 3) pe_int) (fun _ _ => rfl)))))
          (pss_one (ps_if (PW.pt (pw_and (pt_cmpR op_eq (pe_op op_add (pv 3) pe_int) (pv 0) (nomark _)) (pw_and1 (pt_cmpR op_eq (pe_op op_mod (pv 1) pe_int) pe_int (nomark _)))))
            (pss_one (ps_set (i := 2) sc_l_rows_by.nd rfl (Or.inl rfl) (pe_op op_cat (pv 2) (pe_ix (ix_listK (K := K) rfl) (pe_lst (pa_cons (pe_lst (pa_cons pe_str (pa_cons pe_str pa_nil))) (pa_cons (pe_lst (pa_cons pe_str (pa_cons pe_str pa_nil))) pa_nil))) (pe_op op_mod (pe_op op_fdiv (pv 1) pe_int) pe_int) (fun _ _ => rfl)))))
            (pss_one (ps_expr (pe_bm PySem.F.plainAttrs_list PySem.F.slot_list_append PySem.F.type_list_append mt_append (pv 2) (pa_cons pe_str pa_nil)))))))
        (pss_one (ps_set (i := 3) sc_l_rows_by.nd rfl (Or.inl rfl) (pe_op op_add (pe_op op_add (pv 3) pe_int) (pe_callTy call_int1 (by rfl) T.n_int PyProof.Rows.boot_int (pa_cons (pv 4) pa_nil))))))))
      (pss_one (ps_ret (pv 2)))))), ?_⟩
    have hsz := sizeLine_eq
    walk_at "sy"
    rename_i lp H1 n1
    refine ⟨invRB H many cell, ⟨many, 0, 0, none, lp, [], rfl, rfl, n1.same, n1.free, n1.at_, by simp, by omega, by omega, by simp⟩, ?_⟩
    rintro f σ Hx ⟨i, made, v4, q0, acc, rfl, rfl, sx, fq, hq, hl, hmm, hf, he⟩
    have hlm : (acc.map V.str).length = acc.length := List.length_map ..
    walk_at "sy"
    by_cases hlt : made < many
    · refine iteDT (by omega) ?_
      obtain ⟨f', rfl⟩ : ∃ f', f = f' + 1 := ⟨f - 1, by omega⟩
      rw [rowsBy, if_pos hlt] at he
      refine ⟨fun σ' H' => ∃ m', m' < f' + 1 ∧ invRB H many cell m' σ' H', fun σ' H' h => h, ?_⟩
      walk_at "sy"
      by_cases h1 : made + 2 ≤ many
      · refine iteDT (by omega) ?_
        walk_at "sy"
        by_cases h2 : (cell + made * made) % 5 = 0
        · rw [if_pos ⟨h1, h2⟩] at he
          have h2i : ((cell : Int) + (made : Int) * (made : Int)) % 5 = 0 := by omega
          rw [decide_eq_true h2i]
          by_cases h3 : made % 2 = 0
          · rw [if_pos h3] at he
            have h3i : (made : Int) % 2 = 0 := by omega
            have g3 := @at2a (V.str (Str.ofString "if x")) (V.str (Str.ofString "while 1")) _ h3i
            walk_at "sy"
            refine w_ixL (by walk_at "look") (at2a h3i) ?_
            walk_at "sy"
            refine ⟨f' - 1, by omega, _, made + 2, _, _, acc ++ [wS "if x", wS "tell 1", wS "else", wS "fi"], rfl, by simp; omega, by walk_at "sm", by walk_at "fr", ?_, by rw [List.length_append]; show acc.length + 4 ≤ _; omega, h1, by omega, ?_⟩
            · rw [show (acc ++ [wS "if x", wS "tell 1", wS "else", wS "fi"]).map V.str = acc.map V.str ++ [V.str (Str.ofString "if x"), V.str (Str.ofString "tell 1")] ++ [V.str (Str.ofString "else"), V.str (Str.ofString "fi")] by simp]
              walk_at "look"
            · rw [← he, List.append_assoc, rb_pred cell many f' (made + 2) (by omega)]
          · rw [if_neg h3] at he
            have h3i : (made : Int) % 2 = 1 := by omega
            have g3 := @at2b (V.str (Str.ofString "if x")) (V.str (Str.ofString "while 1")) _ h3i
            walk_at "sy"
            refine w_ixL (by walk_at "look") (at2b h3i) ?_
            walk_at "sy"
            refine ⟨f' - 1, by omega, _, made + 2, _, _, acc ++ [wS "while 1", wS "tell 1", wS "od"], rfl, by simp; omega, by walk_at "sm", by walk_at "fr", ?_, by rw [List.length_append]; show acc.length + 3 ≤ _; omega, h1, by omega, ?_⟩
            · rw [show (acc ++ [wS "while 1", wS "tell 1", wS "od"]).map V.str = acc.map V.str ++ [V.str (Str.ofString "while 1"), V.str (Str.ofString "tell 1")] ++ [V.str (Str.ofString "od")] by simp]
              walk_at "look"
            · rw [← he, List.append_assoc, rb_pred cell many f' (made + 2) (by omega)]
        · have h2i : ¬ ((cell : Int) + (made : Int) * (made : Int)) % 5 = 0 := by omega
          rw [if_neg (fun z => h2 z.2), if_neg (fun z => absurd z.1 (by omega))] at he
          rw [decide_eq_false h2i]
          walk_at "sy"
          rename_i H5 c5
          refine ⟨f', by omega, _, made + 1, _, _, acc ++ [wS "tell 1"], rfl, by simp, c5.sameOwn sx fq, fq, ?_, by rw [List.length_append]; show acc.length + 1 ≤ _; omega, by omega, by omega, ?_⟩
          · rw [List.map_append]
            exact c5.at_
          · rw [← he, List.append_assoc]
      · rw [if_neg (fun z => h1 z.1)] at he
        walk_at "sy"
        by_cases h4 : cell % 2 = 1
        · rw [if_pos ⟨by omega, h4⟩] at he
          refine iteDT (by omega) ?_
          by_cases h3 : cell / 2 % 2 = 0
          · rw [if_pos h3] at he
            have h3i : (cell : Int) / 2 % 2 = 0 := by omega
            walk_at "sy"
            refine w_ixL (by walk_at "look") (at2a h3i) ?_
            walk_at "sy"
            refine ⟨f', by omega, _, made + 1, _, _, acc ++ [wS "if x", wS "fi"], rfl, by simp, by walk_at "sm", by walk_at "fr", ?_, by rw [List.length_append]; show acc.length + 2 ≤ _; omega, by omega, by omega, ?_⟩
            · rw [List.map_append]
              walk_at "look"
            · rw [← he, List.append_assoc]
          · rw [if_neg h3] at he
            have h3i : (cell : Int) / 2 % 2 = 1 := by omega
            walk_at "sy"
            refine w_ixL (by walk_at "look") (at2b h3i) ?_
            walk_at "sy"
            refine ⟨f', by omega, _, made + 1, _, _, acc ++ [wS "while 1", wS "od"], rfl, by simp, by walk_at "sm", by walk_at "fr", ?_, by rw [List.length_append]; show acc.length + 2 ≤ _; omega, by omega, by omega, ?_⟩
            · rw [List.map_append]
              walk_at "look"
            · rw [← he, List.append_assoc]
        · rw [if_neg (fun z => h4 z.2)] at he
          refine iteDF (by omega) ?_
          walk_at "sy"
          rename_i H5 c5
          refine ⟨f', by omega, _, made + 1, _, _, acc ++ [wS "tell 1"], rfl, by simp, c5.sameOwn sx fq, fq, ?_, by rw [List.length_append]; show acc.length + 1 ≤ _; omega, by omega, by omega, ?_⟩
          · rw [List.map_append]
            exact c5.at_
          · rw [← he, List.append_assoc]
    · refine iteDF (by omega) ?_
      rw [rowsBy_end _ _ _ _ hlt, List.append_nil] at he
      walk_at "sy"
      exact q _ _ sx (he ▸ hq)
def spLastRow : Sp := fun vs H Q _ => ∃ (p : Addr) (ls : List Str), vs = [.ref p] ∧ H p = some (.lst (ls.map V.str)) ∧ ls.length ≤ 1000 ∧ ∀ H', Same H H' → Q (.int ((lastRow ls : Nat) : Int)) H'
theorem zipIdx_at {ls : List Str} {i : Nat} {l : Str} (h : ls[i]? = some l) : ls.zipIdx[i]? = some (l, i) := by
  rw [List.getElem?_zipIdx, h]
  simp
theorem ok_l_last_row (T : Tx K mg) : FnOk P w K mg base CX0 1 T.f_l_last_row T.d_l_last_row ["_law_lines"] spLastRow := by
  refine T.F_l_last_row.ok sc_l_last_row (fun vs H Q E h => ?_) (fun cdv A outer s H vs Q E hr h => ?_)
  · obtain ⟨p, ls, rfl, _⟩ := h
    rfl
  · obtain ⟨p, ls, rfl, hp, hl, q⟩ := h
    refine ⟨_, (pss_cons (ps_set (i := 1) sc_l_last_row.nd rfl (Or.inl rfl) pe_int)
      (pss_cons (ps_for PassesOwn.never rfl (pi_enum (by rfl) T.n_enumerate (pa_cons (pv 0) pa_nil)) (pg_tup rfl (pgs_cons (pg_name (i := 2) sc_l_last_row.nd rfl (Or.inl rfl)) (pgs_cons (pg_name (i := 3) sc_l_last_row.nd rfl (Or.inl rfl)) pgs_nil)))
        (pss_one (ps_if (pt_cmpR (notIn_seqK (K := K) rfl) (pv 3) (pe_tup (pa_cons pe_str (pa_cons pe_str (pa_cons pe_str pa_nil)))) (by rfl))
          (pss_one (ps_set (i := 1) sc_l_last_row.nd rfl (Or.inl rfl) (pv 2)))
          pss_nil)))
      (pss_one (ps_ret (pv 1))))), ?_⟩
    have hsz := sizeLine_eq
    walk_at "sy"
    refine k_forE (ls.map V.str) (fun i σ Hx => ∃ (n : Int) (v2 v3 : Option V), σ = [some (.ref p), some (.int n), v2, v3] ∧ Same H Hx ∧ n = (((ls.zipIdx.take i).foldl (fun a e => if e.1 ∈ endL then a else e.2) 0 : Nat) : Int)) ⟨0, none, none, rfl, Same.refl _, rfl⟩ (fun i σ Hx _ h => ?_) ?_ ?_
    · obtain ⟨n, v2, v3, rfl, sx, _⟩ := h
      exact SqL.of (sx _ _ hp)
    · rintro i v σ Hx H3 Tp hv ⟨n, v2, v3, rfl, sx, rfl⟩ nT
      obtain ⟨l, hl', rfl⟩ := map_at hv
      have aT := nT.at_
      have s3 := sx.trans nT.same
      have es := take_snoc (zipIdx_at hl')
      have ei : inV (V.str l) [V.str (Str.ofString "else"), V.str (Str.ofString "fi"), V.str (Str.ofString "od")] = decide (l ∈ endL) := inV_strs l endL
      walk_at "sy"
      refine w_ninT (by walk_at "look") rfl rfl ?_
      rw [ei]
      by_cases hm : l ∈ endL
      · rw [decide_eq_true hm]
        walk_at "sy"
        exact ⟨_, _, _, rfl, by walk_at "sm", by rw [es, List.foldl_append, List.foldl_cons, List.foldl_nil, if_pos hm]⟩
      · rw [decide_eq_false hm]
        walk_at "sy"
        exact ⟨_, _, _, rfl, by walk_at "sm", by rw [es, List.foldl_append, List.foldl_cons, List.foldl_nil, if_neg hm]⟩
    · rintro σ Hx ⟨n, v2, v3, rfl, sx, rfl⟩
      walk_at "sy"
      rw [List.length_map, List.take_of_length_le (by rw [List.length_zipIdx]; exact Nat.le_refl _)]
      exact q _ sx
end
end
section

local macro_rules | `(tactic| walk_at "use") => `(tactic| (with_reducible refine w_chain ?_))
local macro_rules | `(tactic| walk_at "use") => `(tactic| ((with_reducible apply w_lenStr); (· omega)))
local macro_rules | `(tactic| walk_at "use") => `(tactic| (with_reducible refine w_iStr ?_))
local macro_rules | `(tactic| walk_at "use") => `(tactic| (with_reducible refine w_itS ?_))
local macro_rules | `(tactic| walk_at "use") => `(tactic| ((with_reducible refine w_GT ?_); intro a ha))
local macro_rules | `(tactic| walk_at "use") => `(tactic| ((with_reducible apply w_ninC); (· assumption)))
local macro_rules | `(tactic| walk_at "use") => `(tactic| ((with_reducible apply w_inC); (· assumption)))
local macro_rules | `(tactic| walk_at "use") => `(tactic| first
  | with_reducible refine w_fldaug ?_
  | ((with_reducible apply w_fldaug1); (· walk_at "look"); (· assumption); (· assumption); (· exact rfl))
  | ((with_reducible apply w_fldaug2); (· walk_at "look"); (· first | exact (by decide : 5 < 1000) | exact (by decide)); intro H' c)
  | with_reducible refine w_ipI ?_
  | with_reducible refine w_radd ?_
  | ((with_reducible apply w_eqNil); (· walk_at "look"); (· walk_at "look"))
  | ((with_reducible apply w_neNil); (· walk_at "look"); (· walk_at "look"))
  | ((with_reducible apply w_pop); (· walk_at "look"); (· first | assumption | exact rfl); intro H' c)
  | with_reducible refine w_iEnum ?_
  | ((with_reducible apply w_iEnum1); (· walk_at "look"))
  | with_reducible refine w_sl2 ?_
  | ((with_reducible apply w_slE); (· walk_at "look"); intro p H' n)
  | with_reducible refine w_rng3 ?_)
section
variable {P : Program} {w : World} {K : PySem.W.Frag} {mg : Str → Option Value} {base : Heap}
def spBuilt : Sp := fun vs H Q _ => ∃ (sort more cell : Nat), vs = [.int (sort : Int), .int (more : Int), .int (cell : Int)] ∧ more ≤ 1 ∧ cell < 1000 ∧ sort < 16 ∧ ∀ p lp H', Same H H' → H' p = some (.tup [.ref lp, .int (((builtF sort more cell).2 : Nat) : Int)]) → H' lp = some (.lst ((builtF sort more cell).1.map V.str)) → Q (.ref p) H'
theorem flat1 {α : Type} (x : α) : ∀ n : Nat, (List.replicate n [x]).flatten = List.replicate n x
  | 0 => rfl
  | n + 1 => by rw [List.replicate_succ, List.flatten_cons, flat1 x n]; rfl
theorem w_mulS {H : Hp} {Q : VK} {s : Str} {i : Int} (n : Nat) (hi : i = (n : Int)) (h1 : 1 ≤ n) (h2 : n ≤ 100) (h3 : 1 ≤ s.length) (h4 : s.length ≤ 100) (h5 : (repS s n).length ≤ sizeLine) (h : Q (.str (repS s n)) H) : rMulS (.str s) (.int i) H Q := ⟨s, n, rfl, by rw [hi], h1, h2, h3, h4, h5, h⟩
theorem repS_len (x : Str) (n : Nat) : (repS x n).length = n * x.length := by
  have e := congrArg List.length (tl_repS x n)
  rw [List.length_flatten, List.map_replicate, List.sum_replicate_nat] at e
  exact e
theorem at2 {a b c : Str} {k : Int} (h : k = 0 ∨ k = 1) (ha : k = 0 → c = a) (hb : k = 1 → c = b) : atI [V.str a, V.str b] k = some (V.str c) := by
  rcases h with rfl | rfl
  · rw [ha rfl]; rfl
  · rw [hb rfl]; rfl
theorem at_par (cell : Nat) : atI [V.str (Str.ofString " b num"), V.str (Str.ofString " b c"), V.str (Str.ofString " look b c")] ((cell : Int) % 3) = some (V.str (parZ (cell % 3))) := by
  have h : (cell : Int) % 3 = ((cell % 3 : Nat) : Int) := rfl
  rw [h]
  rcases (by omega : cell % 3 = 0 ∨ cell % 3 = 1 ∨ cell % 3 = 2) with e | e | e <;> rw [e] <;> rfl
theorem at_path (sort cell more : Nat) (h : 9 ≤ sort) : atI ((pathRows more).map V.str) (((sort : Int) - 9 + (cell : Int)) % 5) = some (V.str ((pathRows more).getD ((sort - 9 + cell) % 5) eS)) := by
  rw [show ((sort : Int) - 9 + (cell : Int)) % 5 = (((sort - 9 + cell) % 5 : Nat) : Int) by omega]
  rcases (by omega : (sort - 9 + cell) % 5 = 0 ∨ (sort - 9 + cell) % 5 = 1 ∨ (sort - 9 + cell) % 5 = 2 ∨ (sort - 9 + cell) % 5 = 3 ∨ (sort - 9 + cell) % 5 = 4) with e | e | e | e | e <;> rw [e] <;> rfl
theorem lits : (Str.ofString "record a").length = 8 ∧ (Str.ofString " b num").length = 6 ∧ (Str.ofString "helper a").length = 8 ∧ (Str.ofString "p").length = 1 ∧ (Str.ofString ".a").length = 2 ∧ (Str.ofString "get x ").length = 6 ∧ (Str.ofString "take x ").length = 7 ∧ (Str.ofString "set x has ").length = 10 ∧ (Str.ofString "call f 3 ").length = 9 ∧ (Str.ofString "put ").length = 4 ∧ (Str.ofString " 3").length = 2 ∧ (Str.ofString "ask ").length = 4 ∧ (Str.ofString "z").length = 1 ∧ (Str.ofString "tell ").length = 5 ∧ (Str.ofString "record ").length = 7 ∧ (Str.ofString "a").length = 1 := by decide +kernel
theorem par_len (c : Nat) : 1 ≤ (parZ c).length ∧ (parZ c).length ≤ 10 := by
  unfold parZ
  split
  · decide +kernel
  · split
    · decide +kernel
    · decide +kernel
theorem ok_l_built (T : Tx K mg) : FnOk P w K mg base CX0 2 T.f_l_built T.d_l_built ["_law_sort", "_law_more", "_law_cell"] spBuilt := by
  refine T.F_l_built.ok sc_l_built (fun vs H Q E h => ?_) (fun cdv A outer s H vs Q E hr h => ?_)
  · obtain ⟨sort, more, cell, rfl, _⟩ := h
    rfl
  · obtain ⟨sort, more, cell, rfl, hmo, hce, hso, q⟩ := h
    have fin : ∀ {ls : List Str} {n : Nat} (us : List V) {p lp : Addr} {H' : Hp}, builtF sort more cell = (ls, n) → ls.map V.str = us → Same H H' → H' p = some (.tup [.ref lp, .int (n : Int)]) → H' lp = some (.lst us) → Q (.ref p) H' := fun us p lp H' e eu s h1 h2 => q _ _ _ s (by rw [e]; exact h1) (by rw [e]; dsimp only; rw [eu]; exact h2)
    obtain ⟨l1, l2, l3, l4, l5, l6, l7, l8, l9, l10, l11, l12, l13, l14, l15, l16⟩ := lits
    refine ⟨_, (pss_cons (ps_if (pt_cmpR op_eq (pv 0) pe_int (nomark _))
        (pss_one (ps_ret (pe_tup (pa_cons (pe_op op_cat (pe_op op_rep (pe_lst (pa_cons pe_str pa_nil)) (pe_op op_add pe_int (pv 1))) (pe_lst (pa_cons pe_str (pa_cons pe_str pa_nil)))) (pa_cons pe_int pa_nil)))))
        pss_nil)
      (pss_cons (ps_if (pt_cmpR op_eq (pv 0) pe_int (nomark _))
        (pss_one (ps_ret (pe_tup (pa_cons (pe_lst (pa_cons (pe_op op_add_str pe_str (pe_op op_mulS2 pe_str (pe_op op_add pe_int (pv 1)))) (pa_cons pe_str (pa_cons pe_str pa_nil)))) (pa_cons pe_int pa_nil)))))
        pss_nil)
      (pss_cons (ps_if (pt_cmpR op_eq (pv 0) pe_int (nomark _))
        (pss_one (ps_ret (pe_tup (pa_cons (pe_op op_rep (pe_lst (pa_cons pe_str (pa_cons pe_str pa_nil))) (pe_op op_add pe_int (pv 1))) (pa_cons pe_int pa_nil)))))
        pss_nil)
      (pss_cons (ps_if (pt_cmpR op_eq (pv 0) pe_int (nomark _))
        (pss_one (ps_ret (pe_tup (pa_cons (pe_lst (pa_cons (pe_op op_add_str pe_str (pe_op op_mulS2 (pe_ix (ix_listK (K := K) rfl) (pe_lst (pa_cons pe_str (pa_cons pe_str (pa_cons pe_str pa_nil)))) (pe_op op_mod (pv 2) pe_int) (fun _ _ => rfl)) (pe_op op_add pe_int (pv 1)))) (pa_cons pe_str pa_nil))) (pa_cons pe_int pa_nil)))))
        pss_nil)
      (pss_cons (ps_if (pt_cmpR op_lt (pv 0) pe_int (nomark _))
        (pss_cons (ps_set (i := 3) sc_l_built.nd rfl (Or.inl rfl) (pe_call (ok_l_rows_by T) (hr.mono (by omega)) rfl T.m_l_rows_by T.F_l_rows_by.kp T.B_l_rows_by .nil pass0 (pa_cons (pe_op op_add pe_int (pv 1)) (pa_cons (pv 2) pa_nil))))
        (pss_one (ps_ret (pe_tup (pa_cons (pe_op op_cat (pe_op op_cat (pe_lst (pa_cons pe_str pa_nil)) (pv 3)) (pe_lst (pa_cons pe_str pa_nil))) (pa_cons (pe_op op_add pe_int (pe_call (ok_l_last_row T) (hr.mono (by omega)) rfl T.m_l_last_row T.F_l_last_row.kp T.B_l_last_row .nil pass0 (pa_cons (pv 3) pa_nil))) pa_nil))))))
        pss_nil)
      (pss_cons (ps_if (pt_cmpR op_lt (pv 0) pe_int (nomark _))
        (pss_cons (ps_set (i := 4) sc_l_built.nd rfl (Or.inl rfl) (pe_ix (ix_listK (K := K) rfl) (pe_lst (pa_cons pe_str (pa_cons pe_str pa_nil))) (pe_op op_sub (pv 0) pe_int) (fun _ _ => rfl)))
        (pss_one (ps_ret (pe_tup (pa_cons (pe_op op_cat (pe_op op_cat (pe_op op_cat (pe_lst (pa_cons pe_str pa_nil)) (pe_op op_rep (pe_lst (pa_cons (pv 4) pa_nil)) (pe_op op_add pe_int (pv 1)))) (pe_op op_rep (pe_lst (pa_cons (pe_ix (ix_listK (K := K) rfl) (pe_lst (pa_cons pe_str (pa_cons pe_str pa_nil))) (pe_op op_sub (pv 0) pe_int) (fun _ _ => rfl)) pa_nil)) (pe_op op_add pe_int (pv 1)))) (pe_lst (pa_cons pe_str pa_nil))) (pa_cons pe_int pa_nil))))))
        pss_nil)
      (pss_cons (ps_set (i := 5) sc_l_built.nd rfl (Or.inl rfl) (pe_op op_add_str pe_str (pe_op op_mulS2 pe_str (pe_op op_add pe_int (pv 1)))))
      (pss_cons (ps_if (pt_cmpR op_lt (pv 0) pe_int (nomark _))
        (pss_cons (ps_set (i := 6) sc_l_built.nd rfl (Or.inl rfl) (pe_lst (pa_cons (pe_op op_add_str pe_str (pv 5)) (pa_cons (pe_op op_add_str pe_str (pv 5)) (pa_cons (pe_op op_add_str pe_str (pv 5)) (pa_cons (pe_op op_add_str pe_str (pv 5)) (pa_cons (pe_op op_add_str (pe_op op_add_str pe_str (pv 5)) pe_str) pa_nil)))))))
        (pss_one (ps_ret (pe_tup (pa_cons (pe_lst (pa_cons pe_str (pa_cons pe_str (pa_cons (pe_ix (ix_listK (K := K) rfl) (pv 6) (pe_op op_mod (pe_op op_add (pe_op op_sub (pv 0) pe_int) (pv 2)) pe_int) (fun _ _ => rfl)) (pa_cons pe_str pa_nil))))) (pa_cons pe_int pa_nil))))))
        pss_nil)
      (pss_cons (ps_if (pt_cmpR op_eq (pv 0) pe_int (nomark _))
        (pss_one (ps_ret (pe_tup (pa_cons (pe_lst (pa_cons pe_str (pa_cons (pe_op op_add_str pe_str (pe_op op_mulS2 pe_str (pe_op op_add pe_int (pv 1)))) (pa_cons pe_str pa_nil)))) (pa_cons pe_int pa_nil)))))
        pss_nil)
      (pss_cons (ps_if (pt_cmpR op_eq (pv 0) pe_int (nomark _))
        (pss_one (ps_ret (pe_tup (pa_cons (pe_lst (pa_cons pe_str (pa_cons (pe_op op_add_str pe_str (pe_callTy call_strK (by rfl) T.n_str PyProof.Rows.boot_str (pa_cons (pe_op op_add pe_int (pv 1)) pa_nil))) (pa_cons pe_str pa_nil)))) (pa_cons pe_int pa_nil)))))
        pss_nil)
      (pss_one (ps_ret (pe_tup (pa_cons (pe_lst (pa_cons (pe_op op_add_str (pe_op op_add_str pe_str (pe_op op_mulS2 pe_str (pe_op op_add pe_int (pv 1)))) pe_str) (pa_cons pe_str (pa_cons pe_str pa_nil)))) (pa_cons pe_int pa_nil))))))))))))))), ?_⟩
    have hsz := sizeLine_eq
    have hm2 : (more : Int) ≤ 1 := by omega
    have n6 : ((6 : Int) + (more : Int)).toNat = 6 + more := by omega
    have n8 : ((8 : Int) + (more : Int)).toNat = 8 + more := by omega
    walk_at "sy"
    by_cases h0 : sort = 0
    · refine iteDT (by omega) ?_
      walk_at "sy"
      rename_i pa Ha na pb Hb nb pc Hc nc
      rw [n6, flat1] at nb
      walk_at "sy"
      exact fin (List.replicate (6 + more) (V.str (Str.ofString "record a b num")) ++ [V.str (Str.ofString "helper a"), V.str (Str.ofString "end")]) (by unfold builtF; rw [if_pos h0]) (by rw [List.map_append, List.map_replicate]; rfl) (by walk_at "sm") (by walk_at "look") (by walk_at "look")
    refine iteDF (by omega) ?_
    walk_at "sy"
    by_cases h1 : sort = 1
    · refine iteDT (by omega) ?_
      walk_at "sy"
      have rl := repS_len (Str.ofString " b num") (4 + more)
      rw [l2] at rl
      refine w_mulS (4 + more) (by omega) (by omega) (by omega) (by omega) (by omega) (by omega) ?_
      walk_at "sy"
      exact fin _ (by unfold builtF; rw [if_neg h0, if_pos h1]) rfl (by walk_at "sm") (by walk_at "look") (by walk_at "look")
    refine iteDF (by omega) ?_
    walk_at "sy"
    by_cases h2 : sort = 2
    · refine iteDT (by omega) ?_
      walk_at "sy"
      rename_i pa Ha na pb Hb nb pc Hc nc
      rw [n6] at nb
      exact fin (List.replicate (6 + more) [V.str (Str.ofString "helper a"), V.str (Str.ofString "end")]).flatten (by unfold builtF; rw [if_neg h0, if_neg h1, if_pos h2]) (by rw [List.map_flatten, List.map_replicate]; rfl) (by walk_at "sm") (by walk_at "look") (by walk_at "look")
    refine iteDF (by omega) ?_
    walk_at "sy"
    by_cases h3 : sort = 3
    · refine iteDT (by omega) ?_
      have ga := at_par cell
      obtain ⟨pl1, pl2⟩ := par_len (cell % 3)
      have rl := repS_len (parZ (cell % 3)) (6 + more)
      have rl2 : (6 + more) * (parZ (cell % 3)).length ≤ 7 * 10 := Nat.mul_le_mul (by omega) pl2
      walk_at "sy"
      refine w_mulS (6 + more) (by omega) (by omega) (by omega) (by omega) (by omega) (by omega) ?_
      walk_at "sy"
      exact fin _ (by unfold builtF; rw [if_neg h0, if_neg h1, if_neg h2, if_pos h3]) rfl (by walk_at "sm") (by walk_at "look") (by walk_at "look")
    refine iteDF (by omega) ?_
    walk_at "sy"
    by_cases h7 : sort < 7
    · refine iteDT (by omega) ?_
      walk_at "sy"
      refine ⟨60 + more, cell, rfl, by omega, by omega, fun p H1 s1 hp => ?_⟩
      have g2 := (rowsBy_six cell (60 + more) (60 + more) 0).2
      walk_at "sy"
      rename_i pa Ha na pb Hb nb pc Hc nc pd Hd nd
      have hpd := nd.get (nc.get (nb.get (na.get hp)))
      refine ⟨p, rowsBy cell (60 + more) (60 + more) 0, rfl, hpd, by omega, fun H5 s5 => ?_⟩
      have hnd := s5 _ _ nd.at_
      have sm5 : Same H H5 := s1.trans (na.same.trans (nb.same.trans (nc.same.trans (nd.same.trans s5))))
      walk_at "sy"
      rename_i pz Hz nz
      exact fin ([V.str (Str.ofString "helper a")] ++ (rowsBy cell (60 + more) (60 + more) 0).map V.str ++ [V.str (Str.ofString "end")]) (by unfold builtF; rw [if_neg h0, if_neg h1, if_neg h2, if_neg h3, if_pos h7]) (by rw [List.map_append, List.map_append]; rfl) (sm5.trans nz.same) nz.at_ (nz.get hnd)
    refine iteDF (by omega) ?_
    walk_at "sy"
    by_cases h9 : sort < 9
    · refine iteDT (by omega) ?_
      have ga := @at2 (Str.ofString "if x") (Str.ofString "while x") (if sort = 7 then wS "if x" else wS "while x") ((sort : Int) - 7) (by omega) (fun e => if_pos (by omega)) (fun e => if_neg (by omega))
      have gb := @at2 (Str.ofString "fi") (Str.ofString "od") (if sort = 7 then wS "fi" else wS "od") ((sort : Int) - 7) (by omega) (fun e => if_pos (by omega)) (fun e => if_neg (by omega))
      walk_at "sy"
      rename_i pa Ha na pb Hb nb pc Hc nc pd Hd nd
      rw [n8, flat1] at nd
      walk_at "sy"
      rename_i pe He ne pf Hf nf pg Hg ng
      rw [n8, flat1] at ng
      walk_at "sy"
      exact fin ([V.str (Str.ofString "helper a")] ++ List.replicate (8 + more) (V.str (if sort = 7 then wS "if x" else wS "while x")) ++ List.replicate (8 + more) (V.str (if sort = 7 then wS "fi" else wS "od")) ++ [V.str (Str.ofString "end")]) (by unfold builtF; rw [if_neg h0, if_neg h1, if_neg h2, if_neg h3, if_neg h7, if_pos h9]) (by rw [List.map_append, List.map_append, List.map_append, List.map_replicate, List.map_replicate]; rfl) (by walk_at "sm") (by walk_at "look") (by walk_at "look")
    refine iteDF (by omega) ?_
    have rp := repS_len (Str.ofString ".a") (3 + more)
    rw [l5] at rp
    have rq : (Str.ofString "p" ++ repS (Str.ofString ".a") (3 + more)).length ≤ 20 := by
      rw [app_len]
      omega
    have rr : (Str.ofString "put " ++ (Str.ofString "p" ++ repS (Str.ofString ".a") (3 + more))).length ≤ 30 := by
      rw [app_len]
      omega
    walk_at "sy"
    refine w_mulS (3 + more) (by omega) (by omega) (by omega) (by omega) (by omega) (by omega) ?_
    walk_at "sy"
    by_cases h13 : sort < 13
    · refine iteDT (by omega) ?_
      have ga := at_path sort cell more (by omega)
      walk_at "sy"
      exact fin _ (by unfold builtF; rw [if_neg h0, if_neg h1, if_neg h2, if_neg h3, if_neg h7, if_neg h9, if_pos h13]) rfl (by walk_at "sm") (by walk_at "look") (by walk_at "look")
    refine iteDF (by omega) ?_
    walk_at "sy"
    by_cases h14 : sort = 13
    · refine iteDT (by omega) ?_
      have rz := repS_len (Str.ofString "z") (8 + more)
      rw [l13] at rz
      walk_at "sy"
      refine w_mulS (8 + more) (by omega) (by omega) (by omega) (by omega) (by omega) (by omega) ?_
      walk_at "sy"
      exact fin _ (by unfold builtF; rw [if_neg h0, if_neg h1, if_neg h2, if_neg h3, if_neg h7, if_neg h9, if_neg h13, if_pos h14]) rfl (by walk_at "sm") (by walk_at "look") (by walk_at "look")
    refine iteDF (by omega) ?_
    walk_at "sy"
    by_cases h15 : sort = 14
    · refine iteDT (by omega) ?_
      have lg : ((1000002 : Int) + (more : Int)).natAbs.log2 < 1920 := by
        rcases (by omega : more = 0 ∨ more = 1) with rfl | rfl <;> decide +kernel
      have tl : (Str.ofString (toString ((1000002 : Int) + (more : Int)))).length ≤ 10 := by
        rcases (by omega : more = 0 ∨ more = 1) with rfl | rfl <;> decide +kernel
      walk_at "sy"
      exact fin _ (by unfold builtF; rw [if_neg h0, if_neg h1, if_neg h2, if_neg h3, if_neg h7, if_neg h9, if_neg h13, if_neg h14, if_pos h15]) rfl (by walk_at "sm") (by walk_at "look") (by walk_at "look")
    refine iteDF (by omega) ?_
    have rz := repS_len (Str.ofString "a") (8 + more)
    rw [l16] at rz
    have ry : (Str.ofString "record " ++ repS (Str.ofString "a") (8 + more)).length ≤ 30 := by
      rw [app_len]
      omega
    walk_at "sy"
    refine w_mulS (8 + more) (by omega) (by omega) (by omega) (by omega) (by omega) (by omega) ?_
    walk_at "sy"
    exact fin _ (by unfold builtF; rw [if_neg h0, if_neg h1, if_neg h2, if_neg h3, if_neg h7, if_neg h9, if_neg h13, if_neg h14, if_neg h15]) rfl (by walk_at "sm") (by walk_at "look") (by walk_at "look")
end
end
section

local macro_rules | `(tactic| walk_at "use") => `(tactic| (with_reducible refine w_chain ?_))
local macro_rules | `(tactic| walk_at "use") => `(tactic| ((with_reducible apply w_lenStr); (· omega)))
local macro_rules | `(tactic| walk_at "use") => `(tactic| (with_reducible refine w_iStr ?_))
local macro_rules | `(tactic| walk_at "use") => `(tactic| (with_reducible refine w_itS ?_))
local macro_rules | `(tactic| walk_at "use") => `(tactic| ((with_reducible refine w_GT ?_); intro a ha))
local macro_rules | `(tactic| walk_at "use") => `(tactic| ((with_reducible apply w_ninC); (· assumption)))
local macro_rules | `(tactic| walk_at "use") => `(tactic| ((with_reducible apply w_inC); (· assumption)))
local macro_rules | `(tactic| walk_at "use") => `(tactic| first
  | with_reducible refine w_fldaug ?_
  | ((with_reducible apply w_fldaug1); (· walk_at "look"); (· assumption); (· assumption); (· exact rfl))
  | ((with_reducible apply w_fldaug2); (· walk_at "look"); (· first | exact (by decide : 5 < 1000) | exact (by decide)); intro H' c)
  | with_reducible refine w_ipI ?_
  | with_reducible refine w_radd ?_
  | ((with_reducible apply w_eqNil); (· walk_at "look"); (· walk_at "look"))
  | ((with_reducible apply w_neNil); (· walk_at "look"); (· walk_at "look"))
  | ((with_reducible apply w_pop); (· walk_at "look"); (· first | assumption | exact rfl); intro H' c)
  | with_reducible refine w_iEnum ?_
  | ((with_reducible apply w_iEnum1); (· walk_at "look"))
  | with_reducible refine w_sl2 ?_
  | ((with_reducible apply w_slE); (· walk_at "look"); intro p H' n)
  | with_reducible refine w_rng3 ?_)
section
variable {P : Program} {w : World} {K : PySem.W.Frag} {mg : Str → Option Value} {base : Heap}
def spInner : Sp := fun vs H Q _ => (∃ v, vs = [v]) ∧ ∀ p H', New p (.tup []) H H' → Q (.ref p) H'
theorem ok_Row_inner (T : Tx K mg) : FnOk P w K mg base CX0 1 T.f_Row_inner T.d_Row_inner ["self"] spInner := by
  refine T.F_Row_inner.ok sc_Row_inner (fun vs H Q E h => ?_) (fun cdv A outer s H vs Q E hr h => ?_)
  · obtain ⟨⟨v, rfl⟩, _⟩ := h
    rfl
  · obtain ⟨⟨v, rfl⟩, q⟩ := h
    refine ⟨_, (pss_one (ps_ret (pe_tup pa_nil))), ?_⟩
    walk_at "sy"
    exact q _ _ (by assumption)
/-- what an if or while has within -/
def spInnerE (T : Tx K mg) (n : Nat) : Sp := fun vs H Q _ => ∃ (v : V) (e : El), vs = [v] ∧ ElAt T H e v ∧ kindE e = n ∧
  match e with
  | .iff _ rs os => ∀ H' q q1 q2 us1 us2, Same H H' → H' q = some (.tup [.ref q1, .ref q2]) → H' q1 = some (.tup us1) → ElsAt T H' rs us1 → H' q2 = some (.tup us2) → ElsAt T H' os us2 → Q (.ref q) H'
  | .whl _ rs => ∀ H' q q1 us1, Same H H' → H' q = some (.tup [.ref q1]) → H' q1 = some (.tup us1) → ElsAt T H' rs us1 → Q (.ref q) H'
  | _ => False
theorem ok_IfRow_inner (T : Tx K mg) : FnOk P w K mg base CX0 1 T.f_IfRow_inner T.d_IfRow_inner ["self"] (spInnerE T 0) := by
  refine T.F_IfRow_inner.ok sc_IfRow_inner (fun vs H Q E h => ?_) (fun cdv A outer s H vs Q E hr h => ?_)
  · obtain ⟨v, e, rfl, _⟩ := h
    rfl
  · obtain ⟨v, e, rfl, hv, hk, q⟩ := h
    refine ⟨_, (pss_one (ps_ret (pe_tup (pa_cons (fldK (K := K) rfl (pv 0) rfl) (pa_cons (fldK (K := K) rfl (pv 0) rfl) pa_nil))))), ?_⟩
    have ccl := T.cl_IfRow
    have na1 := T.na_IfRow_rows
    have na2 := T.na_IfRow_others
    cases e with
    | iff a rs os =>
      obtain ⟨p, dx, q1, q2, v0, us1, us2, rfl, hp, h0, g1, g2, g3, g4⟩ := hv
      walk_at "sy"
      rename_i t H1 n1
      exact q _ _ _ _ _ _ n1.same n1.at_ (n1.get g1) (g2.keep n1.keep) (n1.get g3) (g4.keep n1.keep)
    | _ => cases hk
theorem ok_WhileRow_inner (T : Tx K mg) : FnOk P w K mg base CX0 1 T.f_WhileRow_inner T.d_WhileRow_inner ["self"] (spInnerE T 1) := by
  refine T.F_WhileRow_inner.ok sc_WhileRow_inner (fun vs H Q E h => ?_) (fun cdv A outer s H vs Q E hr h => ?_)
  · obtain ⟨v, e, rfl, _⟩ := h
    rfl
  · obtain ⟨v, e, rfl, hv, hk, q⟩ := h
    refine ⟨_, (pss_one (ps_ret (pe_tup (pa_cons (fldK (K := K) rfl (pv 0) rfl) pa_nil)))), ?_⟩
    have ccl := T.cl_WhileRow
    have na1 := T.na_WhileRow_rows
    cases e with
    | whl a rs =>
      obtain ⟨p, dx, q1, v0, us1, rfl, hp, h0, g1, g2⟩ := hv
      walk_at "sy"
      rename_i t H1 n1
      exact q _ _ _ _ n1.same n1.at_ (n1.get g1) (g2.keep n1.keep)
    | _ => cases hk
def tInner4 (T : Tx K mg) : TE := tAlt (tMeth T.a_SetRow "inner" spInner [] E0 (tVar 4) tNil) (tAlt (tMeth T.a_MakeRow "inner" spInner [] E0 (tVar 4) tNil) (tAlt (tMeth T.a_NoneRow "inner" spInner [] E0 (tVar 4) tNil) (tAlt (tMeth T.a_GiveRow "inner" spInner [] E0 (tVar 4) tNil) (tAlt (tMeth T.a_TakeRow "inner" spInner [] E0 (tVar 4) tNil) (tAlt (tMeth T.a_FillRow "inner" spInner [] E0 (tVar 4) tNil) (tAlt (tMeth T.a_SwapRow "inner" spInner [] E0 (tVar 4) tNil) (tAlt (tMeth T.a_GetRow "inner" spInner [] E0 (tVar 4) tNil) (tAlt (tMeth T.a_PutRow "inner" spInner [] E0 (tVar 4) tNil) (tAlt (tMeth T.a_HasRow "inner" spInner [] E0 (tVar 4) tNil) (tAlt (tMeth T.a_DropRow "inner" spInner [] E0 (tVar 4) tNil) (tAlt (tMeth T.a_LendRow "inner" spInner [] E0 (tVar 4) tNil) (tAlt (tMeth T.a_StepRow "inner" spInner [] E0 (tVar 4) tNil) (tAlt (tMeth T.a_CallRow "inner" spInner [] E0 (tVar 4) tNil) (tAlt (tMeth T.a_BackRow "inner" spInner [] E0 (tVar 4) tNil) (tAlt (tMeth T.a_AskRow "inner" spInner [] E0 (tVar 4) tNil) (tAlt (tMeth T.a_TellRow "inner" spInner [] E0 (tVar 4) tNil) (tAlt (tMeth T.a_IfRow "inner" (spInnerE T 0) [] E0 (tVar 4) tNil) (tMeth T.a_WhileRow "inner" (spInnerE T 1) [] E0 (tVar 4) tNil))))))))))))))))))
/-- the rows within, as tuples -/
def ChunkAt (T : Tx K mg) (H : Hp) : List V → List (List El) → Prop
  | [], [] => True
  | x :: xs, c :: cs => (∃ q us, x = .ref q ∧ H q = some (.tup us) ∧ ElsAt T H c us) ∧ ChunkAt T H xs cs
  | _, _ => False
theorem ChunkAt.at {T : Tx K mg} {H : Hp} : ∀ {xs : List V} {cs : List (List El)} {i : Nat} {x : V}, ChunkAt T H xs cs → xs[i]? = some x → ∃ c, cs[i]? = some c ∧ ∃ q us, x = .ref q ∧ H q = some (.tup us) ∧ ElsAt T H c us
  | [], [], i, x, _, e => by simp at e
  | x :: xs, c :: cs, 0, y, ⟨h, _⟩, e => by
    simp at e
    subst e
    exact ⟨c, rfl, h⟩
  | x :: xs, c :: cs, i + 1, y, ⟨_, h⟩, e => by
    obtain ⟨d, g1, g2⟩ := ChunkAt.at (i := i) h (by simpa using e)
    exact ⟨d, by simpa using g1, g2⟩
  | [], _ :: _, _, _, h, _ => h.elim
  | _ :: _, [], _, _, h, _ => h.elim
theorem ChunkAt.len {T : Tx K mg} {H : Hp} : ∀ {xs : List V} {cs : List (List El)}, ChunkAt T H xs cs → xs.length = cs.length
  | [], [], _ => rfl
  | x :: xs, c :: cs, ⟨_, h⟩ => by simp [ChunkAt.len h]
  | [], _ :: _, h => h.elim
  | _ :: _, [], h => h.elim
theorem ChunkAt.keep {T : Tx K mg} {H H' : Hp} (k : Keep H H') : ∀ {xs : List V} {cs : List (List El)}, ChunkAt T H xs cs → ChunkAt T H' xs cs
  | [], [], _ => trivial
  | x :: xs, c :: cs, ⟨⟨q, us, e, h1, h2⟩, h⟩ => ⟨⟨q, us, e, k _ _ h1 trivial, h2.keep k⟩, ChunkAt.keep k h⟩
  | [], _ :: _, h => h.elim
  | _ :: _, [], h => h.elim
theorem w_ext {H : Hp} {Q : VK} {l b : Addr} {xs zs : List V} (h1 : H l = some (.lst xs)) (h2 : H b = some (.lst zs)) (sz : xs.length + zs.length ≤ sizeLine) (h : ∀ H', Chg l (.lst xs) (.lst (xs ++ zs)) H H' → Q .non H') : rExtend (.ref l) [.ref b] H Q := ⟨l, b, xs, zs, rfl, rfl, h1, h2, sz, h _ (Chg.mk' h1)⟩
theorem ElsAt.app {T : Tx K mg} {H : Hp} {bs : List El} {vs : List V} (g : ElsAt T H bs vs) : ∀ {as : List El} {us : List V}, ElsAt T H as us → ElsAt T H (as ++ bs) (us ++ vs)
  | [], _, h => by
    have h : _ = _ := h
    subst h
    exact g
  | _ :: _, _, ⟨v, u, e, h1, h2⟩ => by
    subst e
    exact ⟨v, _, rfl, h1, ElsAt.app g h2⟩
theorem ElsAt.last {T : Tx K mg} {H : Hp} : ∀ {as : List El} {us : List V}, ElsAt T H as us → as ≠ [] → ∃ bs e vs v, as = bs ++ [e] ∧ us = vs ++ [v] ∧ ElsAt T H bs vs ∧ ElAt T H e v
  | [], _, _, h => absurd rfl h
  | [e], _, ⟨v, u, eu, h1, h2⟩, _ => by
    have h2 : _ = _ := h2
    subst h2
    exact ⟨[], e, [], v, rfl, eu, rfl, h1⟩
  | e :: e2 :: as, _, ⟨v, u, eu, h1, h2⟩, _ => by
    obtain ⟨bs, e', vs, v', g1, g2, g3, g4⟩ := ElsAt.last h2 (by simp)
    exact ⟨e :: bs, e', v :: vs, v', by rw [g1]; rfl, by rw [eu, g2]; rfl, ⟨v, vs, rfl, h1, g3⟩, g4⟩
theorem cntEs_app : ∀ (as bs : List El), cntEs (as ++ bs) = cntEs as + cntEs bs
  | [], bs => by simp [cntEs]
  | a :: as, bs => by
    show cntE a + cntEs (as ++ bs) = cntE a + cntEs as + cntEs bs
    rw [cntEs_app as bs]
    omega
theorem plainEs_app : ∀ (as bs : List El), plainEs (as ++ bs) = (plainEs as && plainEs bs)
  | [], bs => by simp [plainEs]
  | a :: as, bs => by
    show (plainE a && plainEs (as ++ bs)) = (plainE a && plainEs as && plainEs bs)
    rw [plainEs_app as bs, Bool.and_assoc]
theorem cntE_pos (e : El) : 1 ≤ cntE e := by cases e <;> simp only [cntE] <;> omega
theorem cntEs_len : ∀ as : List El, as.length ≤ cntEs as
  | [] => Nat.zero_le _
  | a :: as => by
    have := cntEs_len as
    have := cntE_pos a
    show as.length + 1 ≤ cntE a + cntEs as
    omega
section
variable {σ : St} {H : Hp} {Q : VK} {T : Tx K mg} {v : V}
theorem inner_el {e : El} (hσ : σ[4]? = some (some v)) (hv : ElAt T H e v) (hpl : plainE e = true) (q : ∀ H' p xs cs, Same H H' → H' p = some (.tup xs) → ChunkAt T H' xs cs → 1 + cntEs cs.flatten = cntE e → plainEs cs.flatten = true → Q (.ref p) H') : tInner4 T σ H Q := by
  have hv0 := hv
  cases e with
  | row r =>
    have q2 : ∀ p H', New p (.tup []) H H' → Q (.ref p) H' := fun p H' n => q H' p [] [] n.same n.at_ trivial rfl rfl
    have hv : RowAt T H r v := hv
    cases r with
    | set x0 x1 x2 x3 =>
      obtain ⟨p, dx, v0, v1, v2, v3, rfl, hp, h0, h1, h2, h3⟩ := hv
      exact (.inl (⟨_, hσ, p, dx, _, rfl, hp, rfl, ⟨_, rfl⟩, q2⟩))
    | make x0 x1 x2 =>
      obtain ⟨p, dx, v0, v1, v2, rfl, hp, h0, h1, h2⟩ := hv
      exact .inr ((.inl (⟨_, hσ, p, dx, _, rfl, hp, rfl, ⟨_, rfl⟩, q2⟩)))
    | non x0 x1 =>
      obtain ⟨p, dx, v0, v1, rfl, hp, h0, h1⟩ := hv
      exact .inr (.inr ((.inl (⟨_, hσ, p, dx, _, rfl, hp, rfl, ⟨_, rfl⟩, q2⟩))))
    | give x0 x1 =>
      obtain ⟨p, dx, v0, v1, rfl, hp, h0, h1⟩ := hv
      exact .inr (.inr (.inr ((.inl (⟨_, hσ, p, dx, _, rfl, hp, rfl, ⟨_, rfl⟩, q2⟩)))))
    | take x0 x1 =>
      obtain ⟨p, dx, v0, v1, rfl, hp, h0, h1⟩ := hv
      exact .inr (.inr (.inr (.inr ((.inl (⟨_, hσ, p, dx, _, rfl, hp, rfl, ⟨_, rfl⟩, q2⟩))))))
    | fill x0 x1 =>
      obtain ⟨p, dx, v0, v1, rfl, hp, h0, h1⟩ := hv
      exact .inr (.inr (.inr (.inr (.inr ((.inl (⟨_, hσ, p, dx, _, rfl, hp, rfl, ⟨_, rfl⟩, q2⟩)))))))
    | swap x0 x1 =>
      obtain ⟨p, dx, v0, v1, rfl, hp, h0, h1⟩ := hv
      exact .inr (.inr (.inr (.inr (.inr (.inr ((.inl (⟨_, hσ, p, dx, _, rfl, hp, rfl, ⟨_, rfl⟩, q2⟩))))))))
    | get x0 x1 =>
      obtain ⟨p, dx, v0, v1, rfl, hp, h0, h1⟩ := hv
      exact .inr (.inr (.inr (.inr (.inr (.inr (.inr ((.inl (⟨_, hσ, p, dx, _, rfl, hp, rfl, ⟨_, rfl⟩, q2⟩)))))))))
    | put x0 x1 =>
      obtain ⟨p, dx, v0, v1, rfl, hp, h0, h1⟩ := hv
      exact .inr (.inr (.inr (.inr (.inr (.inr (.inr (.inr ((.inl (⟨_, hσ, p, dx, _, rfl, hp, rfl, ⟨_, rfl⟩, q2⟩))))))))))
    | has x0 x1 =>
      obtain ⟨p, dx, v0, v1, rfl, hp, h0, h1⟩ := hv
      exact .inr (.inr (.inr (.inr (.inr (.inr (.inr (.inr (.inr ((.inl (⟨_, hσ, p, dx, _, rfl, hp, rfl, ⟨_, rfl⟩, q2⟩)))))))))))
    | drop x0 =>
      obtain ⟨p, dx, v0, rfl, hp, h0⟩ := hv
      exact .inr (.inr (.inr (.inr (.inr (.inr (.inr (.inr (.inr (.inr ((.inl (⟨_, hσ, p, dx, _, rfl, hp, rfl, ⟨_, rfl⟩, q2⟩))))))))))))
    | lend x0 x1 x2 =>
      obtain ⟨p, dx, v0, v1, v2, rfl, hp, h0, h1, h2⟩ := hv
      exact .inr (.inr (.inr (.inr (.inr (.inr (.inr (.inr (.inr (.inr (.inr ((.inl (⟨_, hσ, p, dx, _, rfl, hp, rfl, ⟨_, rfl⟩, q2⟩)))))))))))))
    | step x0 x1 =>
      obtain ⟨p, dx, v0, v1, rfl, hp, h0, h1⟩ := hv
      exact .inr (.inr (.inr (.inr (.inr (.inr (.inr (.inr (.inr (.inr (.inr (.inr ((.inl (⟨_, hσ, p, dx, _, rfl, hp, rfl, ⟨_, rfl⟩, q2⟩))))))))))))))
    | call x0 x1 x2 =>
      obtain ⟨p, dx, v0, v1, v2, rfl, hp, h0, h1, h2⟩ := hv
      exact .inr (.inr (.inr (.inr (.inr (.inr (.inr (.inr (.inr (.inr (.inr (.inr (.inr ((.inl (⟨_, hσ, p, dx, _, rfl, hp, rfl, ⟨_, rfl⟩, q2⟩)))))))))))))))
    | back x0 =>
      obtain ⟨p, dx, v0, rfl, hp, h0⟩ := hv
      exact .inr (.inr (.inr (.inr (.inr (.inr (.inr (.inr (.inr (.inr (.inr (.inr (.inr (.inr ((.inl (⟨_, hσ, p, dx, _, rfl, hp, rfl, ⟨_, rfl⟩, q2⟩))))))))))))))))
    | ask x0 =>
      obtain ⟨p, dx, v0, rfl, hp, h0⟩ := hv
      exact .inr (.inr (.inr (.inr (.inr (.inr (.inr (.inr (.inr (.inr (.inr (.inr (.inr (.inr (.inr ((.inl (⟨_, hσ, p, dx, _, rfl, hp, rfl, ⟨_, rfl⟩, q2⟩)))))))))))))))))
    | tell x0 =>
      obtain ⟨p, dx, v0, rfl, hp, h0⟩ := hv
      exact .inr (.inr (.inr (.inr (.inr (.inr (.inr (.inr (.inr (.inr (.inr (.inr (.inr (.inr (.inr (.inr ((.inl (⟨_, hσ, p, dx, _, rfl, hp, rfl, ⟨_, rfl⟩, q2⟩))))))))))))))))))
  | iff a rs os =>
    obtain ⟨p, dx, q1, q2, v0, us1, us2, rfl, hp, _⟩ := hv
    have hp2 : (plainEs rs && plainEs os) = true := hpl
    exact .inr (.inr (.inr (.inr (.inr (.inr (.inr (.inr (.inr (.inr (.inr (.inr (.inr (.inr (.inr (.inr (.inr ((.inl ⟨_, hσ, p, dx, _, rfl, hp, rfl, _, _, rfl, hv0, rfl, fun H' q0 q1 q2 us1 us2 s h1 h2 h3 h4 h5 => q H' q0 [.ref q1, .ref q2] [rs, os] s h1 ⟨⟨q1, us1, rfl, h2, h3⟩, ⟨q2, us2, rfl, h4, h5⟩, trivial⟩ (by simp [cntEs_app, cntE]; omega) (by simp [plainEs_app]; exact Bool.and_eq_true_iff.mp hp2)⟩))))))))))))))))))
  | whl a rs =>
    obtain ⟨p, dx, q1, v0, us1, rfl, hp, _⟩ := hv
    have hp2 : plainEs rs = true := hpl
    exact .inr (.inr (.inr (.inr (.inr (.inr (.inr (.inr (.inr (.inr (.inr (.inr (.inr (.inr (.inr (.inr (.inr (.inr ((⟨_, hσ, p, dx, _, rfl, hp, rfl, _, _, rfl, hv0, rfl, fun H' q0 q1 us1 s h1 h2 h3 => q H' q0 [.ref q1] [rs] s h1 ⟨⟨q1, us1, rfl, h2, h3⟩, trivial⟩ (by simp [cntE]) (by simpa using hp2)⟩)))))))))))))))))))
  | _ => cases hpl
end
def spCounts (T : Tx K mg) : Sp := fun vs H Q _ => ∃ (x : Addr) (rs hs : List El) (n : Str) (ps : List Dt) (g : Option Str) (es : List El), vs = [.ref x] ∧ ProgAtE T H x rs (.hel n ps g es :: hs) ∧ plainEs es = true ∧ cntEs es ≤ 1000 ∧ rs.length ≤ 1000 ∧ hs.length ≤ 1000 ∧ ps.length ≤ 1000 ∧
  ∀ p H', Same H H' → H' p = some (.lst ([rs.length, hs.length + 1, ps.length, cntEs es].map fun k : Nat => V.int (k : Int))) → Q (.ref p) H'
def invC (T : Tx K mg) (H : Hp) (x fq : Addr) (F : List V) (es : List El) (m : Nat) (σ : L2.St) (Hx : Hp) : Prop := ∃ (pts : Nat) (i : Int) (ws : List El) (us : List V) (q : Addr) (v4 v5 : Option V), m = cntEs ws ∧ σ = [some (.ref x), some (.ref fq), some (.int i), some (.ref q), v4, v5] ∧ i = (pts : Int) ∧ Same H Hx ∧ H q = none ∧ fq ≠ q ∧ Hx fq = some (.lst F) ∧ Hx q = some (.lst us) ∧ ElsAt T Hx ws us ∧ plainEs ws = true ∧ pts + cntEs ws = cntEs es
theorem ok_l_counts (T : Tx K mg) : FnOk P w K mg base CX0 2 T.f_l_counts T.d_l_counts ["_law_program"] (spCounts T) := by
  refine T.F_l_counts.ok sc_l_counts (fun vs H Q E h => ?_) (fun cdv A outer s H vs Q E hr h => ?_)
  · obtain ⟨x, rs, hs, n, ps, g, es, rfl, _⟩ := h
    rfl
  · obtain ⟨x, rs, hs, n, ps, g, es, rfl, hx, hpl, hc, hrl, hhl, hpsl, q⟩ := h
    refine ⟨_, (pss_cons (ps_set (i := 1) sc_l_counts.nd rfl (Or.inl rfl) (pe_lst (pa_cons (pe_callB (len_seqK (K := K) rfl) (by rfl) T.n_len PySem.boot_len (pa_cons (fldK (K := K) rfl (pv 0) rfl) pa_nil)) (pa_cons (pe_callB (len_seqK (K := K) rfl) (by rfl) T.n_len PySem.boot_len (pa_cons (fldK (K := K) rfl (pv 0) rfl) pa_nil)) (pa_cons (pe_callB (len_seqK (K := K) rfl) (by rfl) T.n_len PySem.boot_len (pa_cons (fldK (K := K) rfl (pe_ix (ix_tupK (K := K) rfl) (fldK (K := K) rfl (pv 0) rfl) pe_int (fun _ _ => rfl)) rfl) pa_nil)) pa_nil)))))
      (pss_cons (ps_set (i := 2) sc_l_counts.nd rfl (Or.inl rfl) pe_int)
      (pss_cons (ps_set (i := 3) sc_l_counts.nd rfl (Or.inl rfl) (pe_callTy (list_ofK (K := K) rfl) (by rfl) T.n_list PyProof.Rows.boot_list (pa_cons (fldK (K := K) rfl (pe_ix (ix_tupK (K := K) rfl) (fldK (K := K) rfl (pv 0) rfl) pe_int (fun _ _ => rfl)) rfl) pa_nil)))
      (pss_cons (ps_while PassesOwn.never (pt_cmpR (op_neNil hr.units) (pv 3) (pe_lst pa_nil) (nomark _))
        (pss_cons (ps_set (i := 4) sc_l_counts.nd rfl (Or.inl rfl) (pe_bm0 PySem.F.plainAttrs_list PySem.F.slot_list_pop PySem.F.type_list_pop mt_pop (pv 3)))
        (pss_cons (ps_set (i := 2) sc_l_counts.nd rfl (Or.inl rfl) (pe_op op_add (pv 2) pe_int))
        (pss_one (ps_for PassesOwn.never rfl (pi_tupK (K := K) rfl (peAlt (pe_meth0 (pv 4) T.cl_SetRow T.M_SetRow_inner (ok_Row_inner T) (hr.mono (by omega)) T.B_Row_inner .nil pass0) (peAlt (pe_meth0 (pv 4) T.cl_MakeRow T.M_MakeRow_inner (ok_Row_inner T) (hr.mono (by omega)) T.B_Row_inner .nil pass0) (peAlt (pe_meth0 (pv 4) T.cl_NoneRow T.M_NoneRow_inner (ok_Row_inner T) (hr.mono (by omega)) T.B_Row_inner .nil pass0) (peAlt (pe_meth0 (pv 4) T.cl_GiveRow T.M_GiveRow_inner (ok_Row_inner T) (hr.mono (by omega)) T.B_Row_inner .nil pass0) (peAlt (pe_meth0 (pv 4) T.cl_TakeRow T.M_TakeRow_inner (ok_Row_inner T) (hr.mono (by omega)) T.B_Row_inner .nil pass0) (peAlt (pe_meth0 (pv 4) T.cl_FillRow T.M_FillRow_inner (ok_Row_inner T) (hr.mono (by omega)) T.B_Row_inner .nil pass0) (peAlt (pe_meth0 (pv 4) T.cl_SwapRow T.M_SwapRow_inner (ok_Row_inner T) (hr.mono (by omega)) T.B_Row_inner .nil pass0) (peAlt (pe_meth0 (pv 4) T.cl_GetRow T.M_GetRow_inner (ok_Row_inner T) (hr.mono (by omega)) T.B_Row_inner .nil pass0) (peAlt (pe_meth0 (pv 4) T.cl_PutRow T.M_PutRow_inner (ok_Row_inner T) (hr.mono (by omega)) T.B_Row_inner .nil pass0) (peAlt (pe_meth0 (pv 4) T.cl_HasRow T.M_HasRow_inner (ok_Row_inner T) (hr.mono (by omega)) T.B_Row_inner .nil pass0) (peAlt (pe_meth0 (pv 4) T.cl_DropRow T.M_DropRow_inner (ok_Row_inner T) (hr.mono (by omega)) T.B_Row_inner .nil pass0) (peAlt (pe_meth0 (pv 4) T.cl_LendRow T.M_LendRow_inner (ok_Row_inner T) (hr.mono (by omega)) T.B_Row_inner .nil pass0) (peAlt (pe_meth0 (pv 4) T.cl_StepRow T.M_StepRow_inner (ok_Row_inner T) (hr.mono (by omega)) T.B_Row_inner .nil pass0) (peAlt (pe_meth0 (pv 4) T.cl_CallRow T.M_CallRow_inner (ok_Row_inner T) (hr.mono (by omega)) T.B_Row_inner .nil pass0) (peAlt (pe_meth0 (pv 4) T.cl_BackRow T.M_BackRow_inner (ok_Row_inner T) (hr.mono (by omega)) T.B_Row_inner .nil pass0) (peAlt (pe_meth0 (pv 4) T.cl_AskRow T.M_AskRow_inner (ok_Row_inner T) (hr.mono (by omega)) T.B_Row_inner .nil pass0) (peAlt (pe_meth0 (pv 4) T.cl_TellRow T.M_TellRow_inner (ok_Row_inner T) (hr.mono (by omega)) T.B_Row_inner .nil pass0) (peAlt (pe_meth0 (pv 4) T.cl_IfRow T.M_IfRow_inner (ok_IfRow_inner T) (hr.mono (by omega)) T.B_IfRow_inner .nil pass0) (pe_meth0 (pv 4) T.cl_WhileRow T.M_WhileRow_inner (ok_WhileRow_inner T) (hr.mono (by omega)) T.B_WhileRow_inner .nil pass0)))))))))))))))))))) (pg_name (i := 5) sc_l_counts.nd rfl (Or.inl rfl))
          (pss_one (ps_expr (pe_bm PySem.F.plainAttrs_list PySem.F.slot_list_extend PySem.F.type_list_extend mt_extend (pv 3) (pa_cons (pe_callTy (list_ofK (K := K) rfl) (by rfl) T.n_list PyProof.Rows.boot_list (pa_cons (pv 5) pa_nil)) pa_nil)))))))))
      (pss_one (ps_ret (pe_op op_cat (pv 1) (pe_lst (pa_cons (pv 2) pa_nil))))))))), ?_⟩
    have hsz := sizeLine_eq
    have ccl := T.cl_Program
    have na0 := T.na_Program_records
    have na1 := T.na_Program_helpers
    have hcl := T.cl_Helper
    have nh1 := T.na_Helper_params
    have nh3 := T.na_Helper_rows
    obtain ⟨dx, qr, qh, ur, uh, hxp, hqr, hur, hqh, huh⟩ := hx.h
    obtain ⟨vh, uh2, rfl, hel, huh2⟩ := huh
    obtain ⟨ph, dh, qe, v1, v2, ue, rfl, hph, hps, hgv, hqe, hue⟩ := hel
    obtain ⟨vps, rfl, hvps⟩ : ∃ p, v1 = .ref p ∧ True := by
      obtain ⟨p, us, e, _⟩ := hps
      exact ⟨p, e, trivial⟩
    have h00 : atI (V.ref ph :: uh2) 0 = some (V.ref ph) := atI_nat (j := 0) rfl
    have hul := hur.len
    have hul2 := huh2.len
    have hpp : ∃ ws, H vps = some (.tup ws) ∧ ws.length = ps.length := by
      obtain ⟨p, us, e, h1, h2⟩ := hps
      cases e
      exact ⟨us, h1, h2.len⟩
    obtain ⟨wps, hwp, hwl⟩ := hpp
    walk_at "sy"
    rename_i fq H1 n1 wq hwq H2 n2
    have neq : fq ≠ wq := (n2.ne n1.at_).symm
    have s2 := n1.same.trans n2.same
    refine ⟨invC T H x fq [V.int ur.length, V.int ((V.ref ph :: uh2).length : Nat), V.int wps.length] es, ⟨cntEs es, 0, 0, es, ue, wq, none, none, rfl, rfl, rfl, s2, freeBack n2.free n1.same, neq, n2.get n1.at_, n2.at_, hue.keep (Keep.of s2), hpl, by omega⟩, ?_⟩
    rintro m σ Hx ⟨pts, i, ws, us, q0, v4, v5, rfl, rfl, rfl, sx, fq0, neq0, hfq, hq0, hws, hpw, hcw⟩
    have hwl2 := cntEs_len ws
    have hul3 := hws.len
    walk_at "sy"
    rename_i pe He ne
    have hq1 := ne.get hq0
    cases ws with
    | nil =>
      have hws : us = [] := hws
      subst hws
      refine iteBF rfl ?_
      walk_at "sy"
      rename_i pf Hf nf pg Hg ng
      have e0 : pts = cntEs es := by simpa [cntEs] using hcw
      subst e0
      exact q _ _ (by walk_at "sm") (by rw [hul, hwl] at ng; rw [show ((V.ref ph :: uh2).length : Nat) = hs.length + 1 by rw [List.length_cons, hul2]] at ng; exact ng.at_)
    | cons w0 wr =>
      obtain ⟨bs, e, vs, v, eb, eu, hbs, hev⟩ := hws.last (by simp)
      rw [eb] at hpw hcw hwl2 hul3
      rw [eu] at hq1
      have hne : us ≠ [] := by rw [eu]; simp
      refine iteBT (by cases us with | nil => exact absurd rfl hne | cons _ _ => rfl) ?_
      refine ⟨fun σ' H' => ∃ m', m' < cntEs (w0 :: wr) ∧ invC T H x fq [V.int ur.length, V.int ((V.ref ph :: uh2).length : Nat), V.int wps.length] es m' σ' H', fun σ' H' h => h, ?_⟩
      have hlast : (vs ++ [v])[(vs ++ [v]).length - 1]? = some v := by simp
      rw [plainEs_app, Bool.and_eq_true] at hpw
      have hpe : plainE e = true := by
        have := hpw.2
        simpa [plainEs] using this
      rw [cntEs_app] at hcw
      have hce : cntEs [e] = cntE e := by simp [cntEs]
      walk_at "sy"
      rename_i H4 c4
      have k4 : Keep Hx H4 := ne.keep.trans c4.keepL
      have s4 : Same H H4 := c4.sameOwn (by walk_at "sm") fq0
      have f4 : H4 fq = some (.lst [V.int ur.length, V.int ((V.ref ph :: uh2).length : Nat), V.int wps.length]) := c4.get (ne.get hfq) neq0
      have a4 := c4.at_
      rw [List.dropLast_concat] at a4
      refine inner_el rfl (hev.keep k4) hpe (fun H5 p5 xs cs s5 h5 hcs hsum hpl5 => ?_)
      have hxl := hcs.len
      walk_at "sy"
      refine k_forT xs (fun i σ Hy => ∃ (us' : List V) (v5 : Option V), σ = [some (.ref x), some (.ref fq), some (.int ((pts : Int) + 1)), some (.ref q0), some v, v5] ∧ Same H Hy ∧ Hy fq = some (.lst [V.int ur.length, V.int ((V.ref ph :: uh2).length : Nat), V.int wps.length]) ∧ Hy q0 = some (.lst us') ∧ ElsAt T Hy (bs ++ (cs.take i).flatten) us' ∧ Hy p5 = some (.tup xs) ∧ ChunkAt T Hy xs cs) ⟨vs, v5, rfl, s4.trans s5, s5 _ _ f4, s5 _ _ a4, by rw [List.take_zero, List.flatten_nil, List.append_nil]; exact hbs.keep (k4.trans (Keep.of s5)), h5, hcs⟩ (fun i σ Hy _ h => ?_) ?_ ?_
      · obtain ⟨us', v5, rfl, _, _, _, _, h6, _⟩ := h
        exact SqT.of h6
      · rintro i y σ Hy hy ⟨us', v6, rfl, s6, f6, q6, els6, h6, ch6⟩
        obtain ⟨c, hc, qc, uc, rfl, hqc, elc⟩ := ch6.at hy
        have hlen := els6.len
        have hlc := elc.len
        have hcl := cntEs_len (bs ++ cs.flatten)
        have e7 : (bs ++ (cs.take i).flatten).length + c.length ≤ 2000 := by
          have h1 : ((cs.take i).flatten).length + c.length ≤ cs.flatten.length := by
            have e := congrArg List.length (congrArg List.flatten (List.take_append_drop (i + 1) cs))
            rw [take_snoc hc, List.flatten_append, List.flatten_append, List.length_append, List.length_append] at e
            simp only [List.flatten_cons, List.flatten_nil, List.append_nil] at e
            omega
          rw [List.length_append] at hcl ⊢
          rw [cntEs_app] at hcl
          omega
        walk_at "sy"
        rename_i l7 hl7 H7 n7
        refine w_ext (n7.get q6) n7.at_ (by omega) fun H8 c8 => ?_
        walk_at "sy"
        have k8 : Keep Hy H8 := n7.keep.trans c8.keepL
        refine ⟨_, _, rfl, c8.sameOwn (s6.trans n7.same) fq0, c8.get (n7.get f6) neq0, c8.at_, ?_, k8 _ _ h6 trivial, ch6.keep k8⟩
        rw [take_snoc hc, List.flatten_append, ← List.append_assoc]
        simp only [List.flatten_cons, List.flatten_nil, List.append_nil]
        exact ElsAt.app (elc.keep k8) (els6.keep k8)
      · rintro σ Hy ⟨us', v6, rfl, s6, f6, q6, els6, h6, ch6⟩
        rw [hxl, List.take_of_length_le (Nat.le_refl _)] at els6
        refine ⟨cntEs (bs ++ cs.flatten), ?_, pts + 1, _, bs ++ cs.flatten, us', q0, _, _, rfl, rfl, by simp, s6, fq0, neq0, f6, q6, els6, ?_, ?_⟩
        · rw [eb, cntEs_app, cntEs_app]
          omega
        · rw [plainEs_app, hpw.1, hpl5]
          rfl
        · rw [cntEs_app]
          omega
end
end
section

local macro_rules | `(tactic| walk_at "use") => `(tactic| (with_reducible refine w_chain ?_))
local macro_rules | `(tactic| walk_at "use") => `(tactic| ((with_reducible apply w_lenStr); (· omega)))
local macro_rules | `(tactic| walk_at "use") => `(tactic| (with_reducible refine w_iStr ?_))
local macro_rules | `(tactic| walk_at "use") => `(tactic| (with_reducible refine w_itS ?_))
local macro_rules | `(tactic| walk_at "use") => `(tactic| ((with_reducible refine w_GT ?_); intro a ha))
local macro_rules | `(tactic| walk_at "use") => `(tactic| ((with_reducible apply w_ninC); (· assumption)))
local macro_rules | `(tactic| walk_at "use") => `(tactic| ((with_reducible apply w_inC); (· assumption)))
local macro_rules | `(tactic| walk_at "use") => `(tactic| first
  | with_reducible refine w_fldaug ?_
  | ((with_reducible apply w_fldaug1); (· walk_at "look"); (· assumption); (· assumption); (· exact rfl))
  | ((with_reducible apply w_fldaug2); (· walk_at "look"); (· first | exact (by decide : 5 < 1000) | exact (by decide)); intro H' c)
  | with_reducible refine w_ipI ?_
  | with_reducible refine w_radd ?_
  | ((with_reducible apply w_eqNil); (· walk_at "look"); (· walk_at "look"))
  | ((with_reducible apply w_neNil); (· walk_at "look"); (· walk_at "look"))
  | ((with_reducible apply w_pop); (· walk_at "look"); (· first | assumption | exact rfl); intro H' c)
  | with_reducible refine w_iEnum ?_
  | ((with_reducible apply w_iEnum1); (· walk_at "look"))
  | with_reducible refine w_sl2 ?_
  | ((with_reducible apply w_slE); (· walk_at "look"); intro p H' n)
  | with_reducible refine w_rng3 ?_)
section
variable {X : Cx} {o e : Expr} {to te : TE}
theorem pe_joinK {K : PySem.W.Frag} {apos pos : Pos} (h : X.K = K) (ho : PE X o to) (he : PE X e te) (hs : starEach [e] X.env = [(false, eval e X.env)] := by rfl) (hbase : attributeBase o "join" X.env (eval o X.env) = eval o X.env := by rfl) (hline : (apos.endLine == pos.line) = true := by rfl) :
    PE X (.Call (.Attribute o "join" apos) [e] [] pos) (tM1 (fun x xs H Q => ∃ a p, ∃ ys : List Str, x = .str a ∧ xs = [.ref p] ∧ (SqL K H p (ys.map V.str) ∨ SqT K H p (ys.map V.str)) ∧
      (ys.map (·.length)).sum + ys.length * a.length ≤ 16777216 ∧ Q (.str (Txt.join a ys)) H) to te) := by
  subst h
  exact pe_join ho he hs hbase hline
end
section
open TL in
theorem nl_tl : tl nlW = [10] := by decide +kernel
theorem nl_one : nlW.length = 1 := by decide +kernel
theorem joinLe {s : Str} (hs : s.length ≤ 1) : ∀ {ys : List Str} {c : Nat}, (∀ y ∈ ys, y.length ≤ c) → (Txt.join s ys).length ≤ (c + 1) * ys.length := by
  intro ys
  rw [TL.join_eq]
  induction ys with
  | nil => intro c _; exact Nat.zero_le _
  | cons x r ih =>
    intro c h
    have hx := h x (List.mem_cons_self ..)
    have hr := ih (c := c) fun y hy => h y (List.mem_cons_of_mem _ hy)
    rw [List.length_cons, Nat.mul_add]
    cases r with
    | nil =>
      show x.length ≤ _
      omega
    | cons y t =>
      show (x ++ s ++ Str.join s (y :: t)).length ≤ _
      rw [app_len, app_len]
      omega
structure TextB (ls : List Str) : Prop where
  len : (Txt.join nlW ls).length ≤ 16000000
  spl : Txt.split (Txt.join nlW ls) (Str.ofString "\n") = ls
  cnt : ls.length ≤ 300
  short : ∀ l ∈ ls, l.length ≤ 100
  ok : ∀ l ∈ ls, strL (wordsOf l)
open TL in
theorem textB_of {ls : List Str} (h : linesB ls = true) : TextB ls := by
  unfold linesB at h
  rw [Bool.and_eq_true, Bool.and_eq_true] at h
  obtain ⟨h1, h2, h3⟩ := h
  have hne := of_decide_eq_true h1
  have hl := of_decide_eq_true h2
  have ha : ∀ l ∈ ls, l.length ≤ 100 ∧ 10 ∉ tl l ∧ strL (wordsOf l) := fun l hm => by
    have := List.all_eq_true.mp h3 l hm
    unfold lineB at this
    rw [Bool.and_eq_true, Bool.and_eq_true] at this
    obtain ⟨g1, g2, g3⟩ := this
    refine ⟨of_decide_eq_true g1, fun z => ?_, fun w hw => List.all_eq_true.mp g3 w hw⟩
    rw [List.contains_iff_mem.mpr z] at g2
    cases g2
  have hj := joinLe (s := nlW) (Nat.le_of_eq nl_one) (fun l m => (ha l m).1)
  have : (100 + 1) * ls.length ≤ 101 * 300 := Nat.mul_le_mul (Nat.le_refl _) hl
  exact ⟨by omega, split_join (y := nlW) (s := 10) (S := []) nl_tl (by decide +kernel) hne fun l m => (ha l m).2.1, hl, fun l m => (ha l m).1, fun l m => (ha l m).2.2⟩
theorem TextB.sum {ls : List Str} (t : TextB ls) : (ls.map (·.length)).sum + ls.length * (Str.ofString "\n").length ≤ 16777216 := by
  have h1 := sum_le 100 (ls.map (·.length)) fun x hx => by
    obtain ⟨y, hy, rfl⟩ := List.mem_map.mp hx
    exact t.short y hy
  rw [List.length_map] at h1
  have : (Str.ofString "\n").length = 1 := nl_one
  rw [this]
  have := t.cnt
  omega
structure Chk (sort cell : Nat) : Prop where
  bad : TextB (builtF sort 1 cell).1
  good : TextB (builtF sort 0 cell).1
  rb : readN ((builtF sort 1 cell).1.map wordsOf) = .inr (builtF sort 1 cell).2
  rg : ∃ rs n ps g es hs, readN ((builtF sort 0 cell).1.map wordsOf) = .inl (rs, .hel n ps g es :: hs) ∧ plainEs es = true ∧ dueF sort (rowsN (builtF sort 0 cell).1) = [rs.length, hs.length + 1, ps.length, cntEs es]
theorem due_le (sort r : Nat) (h : r ≤ 300) : ∀ x ∈ dueF sort r, x ≤ 300 := by
  unfold dueF
  repeat' split
  all_goals
    intro x hx
    simp only [List.mem_cons, List.not_mem_nil, or_false] at hx
    omega
theorem rowsN_le {ls : List Str} (h : ls.length ≤ 300) : rowsN ls ≤ 300 := by
  unfold rowsN
  have h1 := List.length_filter_le (fun l => decide (l ∉ [wS "else", wS "fi", wS "od", wS "end"])) (ls.drop 1)
  rw [List.length_drop] at h1
  omega
theorem w_neSame {K : PySem.W.Frag} {H : Hp} {Q : VK} {a b : Addr} {A B : List Int} (ha : H a = some (.lst (A.map V.int))) (hb : H b = some (.lst (B.map V.int))) (e : A = B) (h : Q (.bl false) H) : rNeD K (.ref a) (.ref b) H Q :=
  ⟨.list (A.map PyData.int), .list (B.map PyData.int), .lst (SqL.of ha) (dpInts A), .lst (SqL.of hb) (dpInts B), shInts A, shInts B, by rw [eqvInts, decide_eq_true e]; exact h⟩
theorem chk_of {sort cell : Nat} (h : sort < 16) : Chk sort cell := by
  have e := chk_all sort cell h
  unfold chk at e
  dsimp only at e
  rw [Bool.and_eq_true, Bool.and_eq_true, Bool.and_eq_true] at e
  obtain ⟨e1, e2, e3, e4⟩ := e
  exact ⟨textB_of e1, textB_of e2, ans_bad (of_decide_eq_true e3), ans_good (of_decide_eq_true e4)⟩
end
instance {sp : Sp} {E : St → XK} {t : TA} {σ : St} {H : Hp} {Q : VK} : Stp (tCallS sp E t σ H Q) (t σ H fun vs H1 => sp vs H1 Q (E σ)) := ⟨fun h => h⟩
instance {a : Addr} {cls : Value} {d : Option Addr} {C : Addr} {f : Str} {te : TE} {σ : St} {H : Hp} {Q : VK} : Stp (tXf a cls d C f te σ H Q) (te σ H fun x H1 => x = .ref a ∧ cls = .ref C ∧ ∃ (dd : Addr) (fs : List (Str × V)) (v : V), d = some dd ∧ H1 dd = some (.xd fs) ∧ fs.lookup f = some v ∧ Q v H1) := ⟨fun h => h⟩
section
variable {P : Program} {w : World} {K : PySem.W.Frag} {mg : Str → Option Value} {base : Heap}
theorem ok_law (T : Tx K mg) : FnOk P w K mg base CX0 24 T.f_law T.d_law ["_law_script"] (spLaw K) := by
  refine T.F_law.ok sc_law (fun vs H Q E h => ?_) (fun cdv A_ outer s_ H vs Q E hr h => ?_)
  · obtain ⟨a, ns, rfl, _⟩ := h
    rfl
  · obtain ⟨a, ns, rfl, hS, _, q⟩ := h
    refine ⟨_, (pss_cons (ps_set (i := 1) sc_law.nd rfl (Or.inl rfl) (pe_lst (pa_cons pe_int pa_nil)))
      (pss_cons (ps_for PassesOwn.never rfl (pi_range1 rfl T.n_range (pa_cons pe_int pa_nil)) (pg_name (i := 2) sc_law.nd rfl (Or.inl rfl))
        (pss_cons (ps_set (i := 3) sc_law.nd rfl (Or.inl rfl) (pe_call (ok_l_draw T) (hr.mono (by omega)) rfl T.m_l_draw T.F_l_draw.kp T.B_l_draw .nil pass0 (pa_cons (pv 0) (pa_cons (pv 1) (pa_cons pe_int pa_nil)))))
        (pss_cons (ps_set (i := 4) sc_law.nd rfl (Or.inl rfl) (pe_call (ok_l_draw T) (hr.mono (by omega)) rfl T.m_l_draw T.F_l_draw.kp T.B_l_draw .nil pass0 (pa_cons (pv 0) (pa_cons (pv 1) (pa_cons pe_int pa_nil)))))
        (pss_cons (ps_asg (pe_call (ok_l_built T) (hr.mono (by omega)) rfl T.m_l_built T.F_l_built.kp T.B_l_built .nil pass0 (pa_cons (pv 3) (pa_cons pe_int (pa_cons (pv 4) pa_nil)))) (pg_tup rfl (pgs_cons (pg_name (i := 5) sc_law.nd rfl (Or.inl rfl)) (pgs_cons (pg_name (i := 6) sc_law.nd rfl (Or.inl rfl)) pgs_nil))))
        (pss_cons (ps_set (i := 7) sc_law.nd rfl (Or.inl rfl) pe_non)
        (pss_cons (ps_try_as (i := 8) rfl rfl sc_law.nd rfl rfl ⟨rfl, by decide, .inl T.c_NoText⟩ takes0 (fun W pn xe tk _ => (pss_one (ps_expr (pe_callS (ok_read T) (hr.mono (by omega)) rfl T.m_read T.F_read.kp T.B_read (fun σ => passAt tk σ) (pa_cons ((pe_joinK (K := K) rfl pe_str (pv 5))) pa_nil))))) (fun a oe cls d pn hz hf => (pss_one (ps_set (i := 7) sc_law.nd rfl (Or.inl rfl) ((pe_xf T.xf_NoText T.xa_NoText_where hz hf (pv 8)))))))
        (pss_cons (ps_if (PW.pt (pw_or (pt_cmp (pc_isN (pv 7))) (pw_or (pt_val (pe_callB (isiK (K := K) rfl) (by rfl) T.n_isinstance PyProof.Rows.boot_isinstance (pa_cons (pv 7) (pa_cons (pe_bltn (v := .ty "bool") (by rfl) T.n_bool (by decide +kernel) rfl) pa_nil)))) (pw_or1 (pt_cmpR op_ne (pv 7) (pv 6) (nomark _))))))
          (pss_one (ps_ret pe_bl))
          pss_nil)
        (pss_cons (ps_asg (pe_call (ok_l_built T) (hr.mono (by omega)) rfl T.m_l_built T.F_l_built.kp T.B_l_built .nil pass0 (pa_cons (pv 3) (pa_cons pe_int (pa_cons (pv 4) pa_nil)))) (pg_tup rfl (pgs_cons (pg_name (i := 5) sc_law.nd rfl (Or.inl rfl)) (pgs_cons (pg_name (i := 6) sc_law.nd rfl (Or.inl rfl)) pgs_nil))))
        (pss_cons (ps_set (i := 9) sc_law.nd rfl (Or.inl rfl) (pe_call (ok_l_counts T) (hr.mono (by omega)) rfl T.m_l_counts T.F_l_counts.kp T.B_l_counts .nil pass0 (pa_cons (pe_call (ok_read T) (hr.mono (by omega)) rfl T.m_read T.F_read.kp T.B_read .nil (passes_call takes0 (fun _ _ _ _ h => h)) (pa_cons ((pe_joinK (K := K) rfl pe_str (pv 5))) pa_nil)) pa_nil)))
        (pss_cons (ps_set (i := 10) sc_law.nd rfl (Or.inl rfl) (pe_callB (len_seqK (K := K) rfl) (by rfl) T.n_len PySem.boot_len (pa_cons (pe_lc (own := [("_law_line", 12)]) (g := gName 12) rfl sc_law.nd (pi_listK (K := K) rfl (pe_slice (sl_listK (K := K) rfl) (pv 5) (po_some pe_int) po_none)) (blkOk_by (own := [("_law_line", 12)]) (N := ["_law_script", "_law_tape", "_law_turn", "_law_sort", "_law_cell", "_law_lines", "_law_where", "_law_caught", "e", "_law_found", "_law_rows", "_law_due", "_law_line"]) (sc := defScope s_law) (by decide +kernel)) (fun _ _ _ _ _ => pg_name (i := 12) sc_law.nd rfl (Or.inl rfl)) (fun _ _ _ _ _ => (pts_one (pt_cmpR (notIn_seqK (K := K) rfl) (pv 12) (pe_tup (pa_cons pe_str (pa_cons pe_str (pa_cons pe_str (pa_cons pe_str pa_nil))))) (by rfl)))) (fun _ _ _ _ _ => (pv 12))) pa_nil)))
        (pss_cons (ps_set (i := 11) sc_law.nd rfl (Or.inl rfl) (pe_lst (pa_cons (pe_lst (pa_cons pe_int (pa_cons pe_int (pa_cons pe_int (pa_cons pe_int pa_nil))))) (pa_cons (pe_lst (pa_cons pe_int (pa_cons pe_int (pa_cons pe_int (pa_cons pe_int pa_nil))))) (pa_cons (pe_lst (pa_cons pe_int (pa_cons pe_int (pa_cons pe_int (pa_cons pe_int pa_nil))))) (pa_cons (pe_lst (pa_cons pe_int (pa_cons pe_int (pa_cons pe_int (pa_cons pe_int pa_nil))))) pa_nil))))))
        (pss_cons (ps_if (PW.pt (pw_or (PW.pt (pw_and (pt_cmpR op_lt (pv 3) pe_int (nomark _)) (pw_and1 (pt_cmpR (neDK (K := K) rfl hr.units) (pv 9) (pe_ix (ix_listK (K := K) rfl) (pv 11) (pv 3) (fun _ _ => rfl)) (nomark _))))) (pw_or1 (PW.pt (pw_and (pt_chain op_lt op_lt pe_int (pv 3) pe_int) (pw_and1 (pt_cmpR (neDK (K := K) rfl hr.units) (pv 9) (pe_lst (pa_cons pe_int (pa_cons pe_int (pa_cons pe_int (pa_cons (pv 10) pa_nil))))) (nomark _))))))))
          (pss_one (ps_ret pe_bl))
          pss_nil)
        (pss_one (ps_if (PW.pt (pw_and (pt_cmpR op_eq (pv 3) pe_int (nomark _)) (pw_and1 (pt_cmpR (neDK (K := K) rfl hr.units) (pv 9) (pe_lst (pa_cons pe_int (pa_cons pe_int (pa_cons pe_int (pa_cons pe_int pa_nil))))) (nomark _)))))
          (pss_one (ps_ret pe_bl))
          pss_nil))))))))))))))
      (pss_one (ps_ret pe_bl)))), ?_⟩
    have hsz := sizeLine_eq
    walk_at "sy"
    rename_i tp H1 n1
    have fT := n1.free
    refine k_forR (fun i σ Hx => ∃ (v2 v3 v4 v5 v6 v7 v9 v10 v11 v12 : Option V) (k : Nat), σ = [some (.ref a), some (.ref tp), v2, v3, v4, v5, v6, v7, none, v9, v10, v11, v12] ∧ Stays K Hx tp a (ns.map V.int) ∧ Hx tp = some (.lst [.int (k : Int)]) ∧ k ≤ 100 * i) ⟨none, none, none, none, none, none, none, none, none, none, 0, rfl, Stays.of hS n1.same fT, n1.at_, by omega⟩ ?_ ?_
    · rintro i hi σ Hx ⟨v2, v3, v4, v5, v6, v7, v9, v10, v11, v12, k, rfl, hS2, ht, hk⟩
      walk_at "sy"
      refine use_draw hS2 ht (by omega) (by decide) (fun H2 d2 c2 l2 u2 => ?_)
      have hS3 := hS2.but c2.but
      have t2 := c2.at_
      walk_at "sy"
      refine use_draw hS3 t2 (by omega) (by decide) (fun H3 d3 c3 l3 u3 => ?_)
      have hS4 := hS3.but c3.but
      have t3 := c3.at_
      obtain ⟨sort, rfl⟩ : ∃ n : Nat, d2 = (n : Int) := ⟨d2.toNat, (Int.toNat_of_nonneg l2).symm⟩
      obtain ⟨cell, rfl⟩ : ∃ n : Nat, d3 = (n : Int) := ⟨d3.toNat, (Int.toNat_of_nonneg l3).symm⟩
      obtain ⟨cb, cg, crb, crg⟩ := chk_of (sort := sort) (cell := cell) (by omega)
      have A0 : sort = 0 → ∀ r, (dueF sort r).map (fun k : Nat => (k : Int)) = [6, 1, 0, 0] := fun e r => by rw [e]; rfl
      have A1 : sort = 1 → ∀ r, (dueF sort r).map (fun k : Nat => (k : Int)) = [1, 1, 0, 0] := fun e r => by rw [e]; rfl
      have A2 : sort = 2 → ∀ r, (dueF sort r).map (fun k : Nat => (k : Int)) = [0, 6, 0, 0] := fun e r => by rw [e]; rfl
      have A3 : sort = 3 → ∀ r, (dueF sort r).map (fun k : Nat => (k : Int)) = [0, 1, 6, 0] := fun e r => by rw [e]; rfl
      have A4 : ¬ sort < 4 → sort < 15 → ∀ r, (dueF sort r).map (fun k : Nat => (k : Int)) = [0, 1, 0, (r : Int)] := fun e e2 r => by
        unfold dueF
        rw [if_neg (by omega), if_neg (by omega), if_neg (by omega), if_neg (by omega), if_pos e2]
        rfl
      have A5 : ¬ sort < 15 → ∀ r, (dueF sort r).map (fun k : Nat => (k : Int)) = [1, 1, 0, 0] := fun e r => by
        unfold dueF
        rw [if_neg (by omega), if_neg (by omega), if_neg (by omega), if_neg (by omega), if_neg e]
        rfl
      walk_at "sy"
      refine ⟨sort, 1, cell, rfl, by omega, by omega, by omega, fun p4 q4 H4 s4 h4 g4 => ?_⟩
      generalize builtF sort 1 cell = B1 at cb crb h4 g4
      walk_at "sy"
      refine w_join (ys := B1.1) (.inl (SqL.of g4)) cb.sum ?_
      have rok : ∀ {ls : List Str}, TextB ls → (Txt.split (Txt.join (Str.ofString "\n") ls) (Str.ofString "\n")).length ≤ 900000 ∧ ∀ l ∈ Txt.split (Txt.join (Str.ofString "\n") ls) (Str.ofString "\n"), l.length ≤ 50000 ∧ strL (wordsOf l) := fun {ls} t => by
        have e : Txt.split (Txt.join (Str.ofString "\n") ls) (Str.ofString "\n") = ls := t.spl
        rw [e]
        exact ⟨by have := t.cnt; omega, fun l hl => ⟨by have := t.short l hl; omega, t.ok l hl⟩⟩
      have eb : Txt.split (Txt.join (Str.ofString "\n") B1.1) (Str.ofString "\n") = B1.1 := cb.spl
      walk_at "sy"
      refine ⟨_, rfl, cb.len, (rok cb).1, (rok cb).2, fun rs hs H' x e => ?_, fun n H5 d e s5 hd => ?_⟩
      · rw [eb, crb] at e
        cases e
      rw [eb, crb] at e
      cases e
      refine ⟨true, T.em_NoText_NoText, fun _ ae hae => ?_, fun q => nomatch q⟩
      walk_at "sy"
      refine ⟨rfl, rfl, d, _, _, rfl, hd, rfl, ?_⟩
      walk_at "sy"
      refine ⟨sort, 0, cell, rfl, by omega, by omega, by omega, fun p6 q6 H6 s6 h6 g6 => ?_⟩
      generalize builtF sort 0 cell = B0 at cg crg h6 g6
      walk_at "sy"
      have eg : Txt.split (Txt.join (Str.ofString "\n") B0.1) (Str.ofString "\n") = B0.1 := cg.spl
      refine w_join (ys := B0.1) (.inl (SqL.of g6)) cg.sum ?_
      walk_at "sy"
      obtain ⟨rs0, n0, ps0, g0, es0, hs0, er, hpl, hdue⟩ := crg
      have hdl := due_le sort (rowsN B0.1) (rowsN_le cg.cnt)
      rw [hdue] at hdl
      refine ⟨_, rfl, cg.len, (rok cg).1, (rok cg).2, fun rs hs H7 x7 e s7 hx => ?_, fun n H' d e => ?_⟩
      rotate_left
      · rw [eg, er] at e
        cases e
      rw [eg, er] at e
      cases e
      walk_at "sy"
      refine ⟨x7, rs0, hs0, n0, ps0, g0, es0, rfl, hx, hpl, by have := hdl (cntEs es0) (by simp); omega, by have := hdl rs0.length (by simp); omega, by have := hdl (hs0.length + 1) (by simp); omega, by have := hdl ps0.length (by simp); omega, fun p8 H8 s8 h8 => ?_⟩
      have hA : H8 p8 = some (.lst (((dueF sort (rowsN B0.1)).map fun k : Nat => (k : Int)).map V.int)) := by
        rw [hdue, List.map_map]
        exact h8
      have g8 := s8 _ _ (s7 _ _ g6)
      have s38 : Same H3 H8 := s4.trans (s5.trans (s6.trans (s7.trans s8)))
      walk_at "sy"
      rename_i p9 H9 n9
      rw [show (1 : Int) = ((1 : Nat) : Int) from rfl, cut_from] at n9
      have a9 := n9.at_
      walk_at "sy"
      refine k_lcL ((B0.1.drop 1).map V.str) (fun D i Hy => Same H9 Hy ∧ Hy D = some (.lst ((((B0.1.drop 1).take i).filter fun l => decide (l ∉ [wS "else", wS "fi", wS "od", wS "end"])).map V.str))) (fun D Hy n => ⟨n.same, n.at_⟩) (fun D i Hy _ h => SqL.of (h.1 _ _ a9)) ?_ ?_
      · rintro D hD i v Hy hx2 ⟨sy, hDy⟩
        obtain ⟨l, hl', rfl⟩ := map_at hx2
        have hcnt := cg.cnt
        have hfl := List.length_filter_le (fun l => decide (l ∉ [wS "else", wS "fi", wS "od", wS "end"])) ((B0.1.drop 1).take i)
        rw [List.length_take, List.length_drop] at hfl
        have ei : inV (V.str l) [V.str (Str.ofString "else"), V.str (Str.ofString "fi"), V.str (Str.ofString "od"), V.str (Str.ofString "end")] = decide (l ∈ [wS "else", wS "fi", wS "od", wS "end"]) := inV_strs l [wS "else", wS "fi", wS "od", wS "end"]
        walk_at "sy"
        refine w_ninT (by walk_at "look") rfl rfl ?_
        rw [ei]
        by_cases hm : l ∈ [wS "else", wS "fi", wS "od", wS "end"]
        · rw [decide_eq_true hm]
          walk_at "sy"
          refine ⟨by walk_at "sm", ?_⟩
          rw [take_snoc hl', List.filter_append, show [l].filter (fun l => decide (l ∉ [wS "else", wS "fi", wS "od", wS "end"])) = [] from by rw [List.filter_cons, if_neg (by simp only [decide_eq_true_eq]; exact fun z => z hm)]; rfl, List.append_nil]
          walk_at "look"
        · rw [decide_eq_false hm]
          walk_at "sy"
          rename_i pt Ht nt H6b c6
          refine ⟨c6.sameOwn (sy.trans nt.same) hD, ?_⟩
          rw [take_snoc hl', List.filter_append, show [l].filter (fun l => decide (l ∉ [wS "else", wS "fi", wS "od", wS "end"])) = [l] from by rw [List.filter_cons, if_pos (decide_eq_true hm)]; rfl, List.map_append]
          exact c6.at_
      rintro D hD Hz ⟨sz, hDz⟩
      rw [List.length_map, List.take_length] at hDz
      obtain ⟨F, hF⟩ : ∃ F, F = (B0.1.drop 1).filter fun l => decide (l ∉ [wS "else", wS "fi", wS "od", wS "end"]) := ⟨_, rfl⟩
      rw [← hF] at hDz
      have hFl : (F.map V.str).length = rowsN B0.1 := by rw [List.length_map, hF]; rfl
      walk_at "sy"
      rename_i pa Ha na pb Hb nb pc Hc nc pd Hd nd pe He ne
      have aA := ne.get (nd.get (nc.get (nb.get (na.get (sz _ _ (n9.get hA))))))
      have sF : Same H3 He := s38.trans (n9.same.trans (sz.trans (na.same.trans (nb.same.trans (nc.same.trans (nd.same.trans ne.same))))))
      have fin : ∀ {H' : Hp} (v2 v3 v4 v5 v6 v7 v9 v10 v11 v12 : Option V), Same He H' → ∃ (u2 u3 u4 u5 u6 u7 u9 u10 u11 u12 : Option V) (k : Nat), [some (.ref a), some (.ref tp), v2, v3, v4, v5, v6, v7, none, v9, v10, v11, v12] = [some (.ref a), some (.ref tp), u2, u3, u4, u5, u6, u7, none, u9, u10, u11, u12] ∧ Stays K H' tp a (ns.map V.int) ∧ H' tp = some (.lst [.int (k : Int)]) ∧ k ≤ 100 * (i + 1) := fun {H'} v2 v3 v4 v5 v6 v7 v9 v10 v11 v12 s => ⟨v2, v3, v4, v5, v6, v7, v9, v10, v11, v12, k + 1 + 1, rfl, hS4.but (fun x o e _ => s _ _ (sF _ _ e)), s _ _ (sF _ _ t3), by omega⟩
      by_cases g4 : sort < 4
      · refine iteDT (by omega) ?_
        rcases (by omega : sort = 0 ∨ sort = 1 ∨ sort = 2 ∨ sort = 3) with e0 | e0 | e0 | e0
        · have ix : atI [V.ref pa, V.ref pb, V.ref pc, V.ref pd] (sort : Int) = some (V.ref pa) := by rw [e0]; rfl
          walk_at "sy"
          refine w_neSame (B := [6, 1, 0, 0]) aA (by walk_at "look") (A0 e0 _) ?_
          walk_at "sy"
          exact fin _ _ _ _ _ _ _ _ _ _ (Same.refl _)
        · have ix : atI [V.ref pa, V.ref pb, V.ref pc, V.ref pd] (sort : Int) = some (V.ref pb) := by rw [e0]; rfl
          walk_at "sy"
          refine w_neSame (B := [1, 1, 0, 0]) aA (by walk_at "look") (A1 e0 _) ?_
          walk_at "sy"
          exact fin _ _ _ _ _ _ _ _ _ _ (Same.refl _)
        · have ix : atI [V.ref pa, V.ref pb, V.ref pc, V.ref pd] (sort : Int) = some (V.ref pc) := by rw [e0]; rfl
          walk_at "sy"
          refine w_neSame (B := [0, 6, 0, 0]) aA (by walk_at "look") (A2 e0 _) ?_
          walk_at "sy"
          exact fin _ _ _ _ _ _ _ _ _ _ (Same.refl _)
        · have ix : atI [V.ref pa, V.ref pb, V.ref pc, V.ref pd] (sort : Int) = some (V.ref pd) := by rw [e0]; rfl
          walk_at "sy"
          refine w_neSame (B := [0, 1, 6, 0]) aA (by walk_at "look") (A3 e0 _) ?_
          walk_at "sy"
          exact fin _ _ _ _ _ _ _ _ _ _ (Same.refl _)
      · refine iteDF (by omega) ?_
        walk_at "sy"
        by_cases g15 : sort < 15
        · refine iteDT (by omega) ?_
          walk_at "sy"
          rename_i pf Hf nf
          refine w_neSame (B := [0, 1, 0, ((F.map V.str).length : Int)]) (nf.get aA) nf.at_ (by rw [A4 g4 g15, hFl]) ?_
          walk_at "sy"
          exact fin _ _ _ _ _ _ _ _ _ _ nf.same
        · refine iteDF (by omega) ?_
          walk_at "sy"
          rename_i pf Hf nf
          refine w_neSame (B := [1, 1, 0, 0]) (nf.get aA) nf.at_ (A5 g15 _) ?_
          walk_at "sy"
          exact fin _ _ _ _ _ _ _ _ _ _ nf.same
    · rintro σ Hx ⟨v2, v3, v4, v5, v6, v7, v9, v10, v11, v12, k, rfl, hS2, ht, hk⟩
      walk_at "sy"
      exact q _
end
end
theorem all_mk {l : PySem.W.OpenLaw} {w : World} {K : PySem.W.Frag} {h : Heap} {mg : Str → Option Value} {fa a_SetRow a_MakeRow a_NoneRow a_GiveRow a_TakeRow a_FillRow a_SwapRow a_GetRow a_PutRow a_HasRow a_DropRow a_LendRow a_StepRow a_CallRow a_BackRow a_AskRow a_TellRow a_IfRow a_WhileRow a_Record a_Helper a_Program a_Row a_Head a_Block a_Reader a_NoText a_HoldError f_NoText_init f_shown f_Row_head f_SetRow_init f_SetRow_told f_MakeRow_init f_MakeRow_told f_NoneRow_init f_NoneRow_told f_GiveRow_init f_GiveRow_told f_TakeRow_init f_TakeRow_told f_FillRow_init f_FillRow_told f_SwapRow_init f_SwapRow_told f_GetRow_init f_GetRow_told f_PutRow_init f_PutRow_told f_HasRow_init f_HasRow_told f_DropRow_init f_DropRow_told f_LendRow_init f_LendRow_told f_StepRow_init f_StepRow_told f_CallRow_init f_CallRow_told f_BackRow_init f_BackRow_told f_AskRow_init f_AskRow_told f_TellRow_init f_TellRow_told f_IfRow_init f_IfRow_told f_WhileRow_init f_WhileRow_told f_Record_init f_Record_told f_Helper_init f_Helper_told f_Program_init f_Program_told f_SetRow_head f_MakeRow_head f_HasRow_head f_CallRow_head f_IfRow_head f_WhileRow_head f_all_told f_is_name f_is_kind f_number_of f_atom_of f_path_of f_given_of f_set_of f_make_of f_call_of f_path_row_of f_pair_row_of f_into_row_of f_single_row_of f_row_by f_record_by f_param_by f_Head_init f_head_by f_Block_init f_Block_put f_Reader_init f_Reader_opened f_Reader_turned f_Reader_shut f_Reader_finished f_Reader_within f_Reader_without f_Reader_good f_read f_Row_inner f_IfRow_inner f_WhileRow_inner f_l_draw f_l_rows_by f_l_last_row f_l_built f_l_counts f_law : Addr} (X : K.In h) (G : h.Ns mainGlobals mg) (hfa : mg "law" = some (.ref fa))
    {od_NoText_init an_NoText_init od_shown an_shown od_Row_head an_Row_head od_SetRow_init an_SetRow_init od_SetRow_told an_SetRow_told od_MakeRow_init an_MakeRow_init od_MakeRow_told an_MakeRow_told od_NoneRow_init an_NoneRow_init od_NoneRow_told an_NoneRow_told od_GiveRow_init an_GiveRow_init od_GiveRow_told an_GiveRow_told od_TakeRow_init an_TakeRow_init od_TakeRow_told an_TakeRow_told od_FillRow_init an_FillRow_init od_FillRow_told an_FillRow_told od_SwapRow_init an_SwapRow_init od_SwapRow_told an_SwapRow_told od_GetRow_init an_GetRow_init od_GetRow_told an_GetRow_told od_PutRow_init an_PutRow_init od_PutRow_told an_PutRow_told od_HasRow_init an_HasRow_init od_HasRow_told an_HasRow_told od_DropRow_init an_DropRow_init od_DropRow_told an_DropRow_told od_LendRow_init an_LendRow_init od_LendRow_told an_LendRow_told od_StepRow_init an_StepRow_init od_StepRow_told an_StepRow_told od_CallRow_init an_CallRow_init od_CallRow_told an_CallRow_told od_BackRow_init an_BackRow_init od_BackRow_told an_BackRow_told od_AskRow_init an_AskRow_init od_AskRow_told an_AskRow_told od_TellRow_init an_TellRow_init od_TellRow_told an_TellRow_told od_IfRow_init an_IfRow_init od_IfRow_told an_IfRow_told od_WhileRow_init an_WhileRow_init od_WhileRow_told an_WhileRow_told od_Record_init an_Record_init od_Record_told an_Record_told od_Helper_init an_Helper_init od_Helper_told an_Helper_told od_Program_init an_Program_init od_Program_told an_Program_told od_SetRow_head an_SetRow_head od_MakeRow_head an_MakeRow_head od_HasRow_head an_HasRow_head od_CallRow_head an_CallRow_head od_IfRow_head an_IfRow_head od_WhileRow_head an_WhileRow_head od_all_told an_all_told od_is_name an_is_name od_is_kind an_is_kind od_number_of an_number_of od_atom_of an_atom_of od_path_of an_path_of od_given_of an_given_of od_set_of an_set_of od_make_of an_make_of od_call_of an_call_of od_path_row_of an_path_row_of od_pair_row_of an_pair_row_of od_into_row_of an_into_row_of od_single_row_of an_single_row_of od_row_by an_row_by od_record_by an_record_by od_param_by an_param_by od_Head_init an_Head_init od_head_by an_head_by od_Block_init an_Block_init od_Block_put an_Block_put od_Reader_init an_Reader_init od_Reader_opened an_Reader_opened od_Reader_turned an_Reader_turned od_Reader_shut an_Reader_shut od_Reader_finished an_Reader_finished od_Reader_within an_Reader_within od_Reader_without an_Reader_without od_Reader_good an_Reader_good od_read an_read od_Row_inner an_Row_inner od_IfRow_inner an_IfRow_inner od_WhileRow_inner an_WhileRow_inner od_l_draw an_l_draw od_l_rows_by an_l_rows_by od_l_last_row an_l_last_row od_l_built an_l_built od_l_counts an_l_counts od_law an_law : Option Addr} {sl_NoText_init sl_shown sl_Row_head sl_SetRow_init sl_SetRow_told sl_MakeRow_init sl_MakeRow_told sl_NoneRow_init sl_NoneRow_told sl_GiveRow_init sl_GiveRow_told sl_TakeRow_init sl_TakeRow_told sl_FillRow_init sl_FillRow_told sl_SwapRow_init sl_SwapRow_told sl_GetRow_init sl_GetRow_told sl_PutRow_init sl_PutRow_told sl_HasRow_init sl_HasRow_told sl_DropRow_init sl_DropRow_told sl_LendRow_init sl_LendRow_told sl_StepRow_init sl_StepRow_told sl_CallRow_init sl_CallRow_told sl_BackRow_init sl_BackRow_told sl_AskRow_init sl_AskRow_told sl_TellRow_init sl_TellRow_told sl_IfRow_init sl_IfRow_told sl_WhileRow_init sl_WhileRow_told sl_Record_init sl_Record_told sl_Helper_init sl_Helper_told sl_Program_init sl_Program_told sl_SetRow_head sl_MakeRow_head sl_HasRow_head sl_CallRow_head sl_IfRow_head sl_WhileRow_head sl_all_told sl_is_name sl_is_kind sl_number_of sl_atom_of sl_path_of sl_given_of sl_set_of sl_make_of sl_call_of sl_path_row_of sl_pair_row_of sl_into_row_of sl_single_row_of sl_row_by sl_record_by sl_param_by sl_Head_init sl_head_by sl_Block_init sl_Block_put sl_Reader_init sl_Reader_opened sl_Reader_turned sl_Reader_shut sl_Reader_finished sl_Reader_within sl_Reader_without sl_Reader_good sl_read sl_Row_inner sl_IfRow_inner sl_WhileRow_inner sl_l_draw sl_l_rows_by sl_l_last_row sl_l_built sl_l_counts sl_law : Array (Option Value)} {oc_NoText_init kV_NoText_init dc_NoText_init pm_NoText_init cd_NoText_init ct_NoText_init oc_shown kV_shown dc_shown pm_shown cd_shown ct_shown oc_Row_head kV_Row_head dc_Row_head pm_Row_head cd_Row_head ct_Row_head oc_SetRow_init kV_SetRow_init dc_SetRow_init pm_SetRow_init cd_SetRow_init ct_SetRow_init oc_SetRow_told kV_SetRow_told dc_SetRow_told pm_SetRow_told cd_SetRow_told ct_SetRow_told oc_MakeRow_init kV_MakeRow_init dc_MakeRow_init pm_MakeRow_init cd_MakeRow_init ct_MakeRow_init oc_MakeRow_told kV_MakeRow_told dc_MakeRow_told pm_MakeRow_told cd_MakeRow_told ct_MakeRow_told oc_NoneRow_init kV_NoneRow_init dc_NoneRow_init pm_NoneRow_init cd_NoneRow_init ct_NoneRow_init oc_NoneRow_told kV_NoneRow_told dc_NoneRow_told pm_NoneRow_told cd_NoneRow_told ct_NoneRow_told oc_GiveRow_init kV_GiveRow_init dc_GiveRow_init pm_GiveRow_init cd_GiveRow_init ct_GiveRow_init oc_GiveRow_told kV_GiveRow_told dc_GiveRow_told pm_GiveRow_told cd_GiveRow_told ct_GiveRow_told oc_TakeRow_init kV_TakeRow_init dc_TakeRow_init pm_TakeRow_init cd_TakeRow_init ct_TakeRow_init oc_TakeRow_told kV_TakeRow_told dc_TakeRow_told pm_TakeRow_told cd_TakeRow_told ct_TakeRow_told oc_FillRow_init kV_FillRow_init dc_FillRow_init pm_FillRow_init cd_FillRow_init ct_FillRow_init oc_FillRow_told kV_FillRow_told dc_FillRow_told pm_FillRow_told cd_FillRow_told ct_FillRow_told oc_SwapRow_init kV_SwapRow_init dc_SwapRow_init pm_SwapRow_init cd_SwapRow_init ct_SwapRow_init oc_SwapRow_told kV_SwapRow_told dc_SwapRow_told pm_SwapRow_told cd_SwapRow_told ct_SwapRow_told oc_GetRow_init kV_GetRow_init dc_GetRow_init pm_GetRow_init cd_GetRow_init ct_GetRow_init oc_GetRow_told kV_GetRow_told dc_GetRow_told pm_GetRow_told cd_GetRow_told ct_GetRow_told oc_PutRow_init kV_PutRow_init dc_PutRow_init pm_PutRow_init cd_PutRow_init ct_PutRow_init oc_PutRow_told kV_PutRow_told dc_PutRow_told pm_PutRow_told cd_PutRow_told ct_PutRow_told oc_HasRow_init kV_HasRow_init dc_HasRow_init pm_HasRow_init cd_HasRow_init ct_HasRow_init oc_HasRow_told kV_HasRow_told dc_HasRow_told pm_HasRow_told cd_HasRow_told ct_HasRow_told oc_DropRow_init kV_DropRow_init dc_DropRow_init pm_DropRow_init cd_DropRow_init ct_DropRow_init oc_DropRow_told kV_DropRow_told dc_DropRow_told pm_DropRow_told cd_DropRow_told ct_DropRow_told oc_LendRow_init kV_LendRow_init dc_LendRow_init pm_LendRow_init cd_LendRow_init ct_LendRow_init oc_LendRow_told kV_LendRow_told dc_LendRow_told pm_LendRow_told cd_LendRow_told ct_LendRow_told oc_StepRow_init kV_StepRow_init dc_StepRow_init pm_StepRow_init cd_StepRow_init ct_StepRow_init oc_StepRow_told kV_StepRow_told dc_StepRow_told pm_StepRow_told cd_StepRow_told ct_StepRow_told oc_CallRow_init kV_CallRow_init dc_CallRow_init pm_CallRow_init cd_CallRow_init ct_CallRow_init oc_CallRow_told kV_CallRow_told dc_CallRow_told pm_CallRow_told cd_CallRow_told ct_CallRow_told oc_BackRow_init kV_BackRow_init dc_BackRow_init pm_BackRow_init cd_BackRow_init ct_BackRow_init oc_BackRow_told kV_BackRow_told dc_BackRow_told pm_BackRow_told cd_BackRow_told ct_BackRow_told oc_AskRow_init kV_AskRow_init dc_AskRow_init pm_AskRow_init cd_AskRow_init ct_AskRow_init oc_AskRow_told kV_AskRow_told dc_AskRow_told pm_AskRow_told cd_AskRow_told ct_AskRow_told oc_TellRow_init kV_TellRow_init dc_TellRow_init pm_TellRow_init cd_TellRow_init ct_TellRow_init oc_TellRow_told kV_TellRow_told dc_TellRow_told pm_TellRow_told cd_TellRow_told ct_TellRow_told oc_IfRow_init kV_IfRow_init dc_IfRow_init pm_IfRow_init cd_IfRow_init ct_IfRow_init oc_IfRow_told kV_IfRow_told dc_IfRow_told pm_IfRow_told cd_IfRow_told ct_IfRow_told oc_WhileRow_init kV_WhileRow_init dc_WhileRow_init pm_WhileRow_init cd_WhileRow_init ct_WhileRow_init oc_WhileRow_told kV_WhileRow_told dc_WhileRow_told pm_WhileRow_told cd_WhileRow_told ct_WhileRow_told oc_Record_init kV_Record_init dc_Record_init pm_Record_init cd_Record_init ct_Record_init oc_Record_told kV_Record_told dc_Record_told pm_Record_told cd_Record_told ct_Record_told oc_Helper_init kV_Helper_init dc_Helper_init pm_Helper_init cd_Helper_init ct_Helper_init oc_Helper_told kV_Helper_told dc_Helper_told pm_Helper_told cd_Helper_told ct_Helper_told oc_Program_init kV_Program_init dc_Program_init pm_Program_init cd_Program_init ct_Program_init oc_Program_told kV_Program_told dc_Program_told pm_Program_told cd_Program_told ct_Program_told oc_SetRow_head kV_SetRow_head dc_SetRow_head pm_SetRow_head cd_SetRow_head ct_SetRow_head oc_MakeRow_head kV_MakeRow_head dc_MakeRow_head pm_MakeRow_head cd_MakeRow_head ct_MakeRow_head oc_HasRow_head kV_HasRow_head dc_HasRow_head pm_HasRow_head cd_HasRow_head ct_HasRow_head oc_CallRow_head kV_CallRow_head dc_CallRow_head pm_CallRow_head cd_CallRow_head ct_CallRow_head oc_IfRow_head kV_IfRow_head dc_IfRow_head pm_IfRow_head cd_IfRow_head ct_IfRow_head oc_WhileRow_head kV_WhileRow_head dc_WhileRow_head pm_WhileRow_head cd_WhileRow_head ct_WhileRow_head oc_all_told kV_all_told dc_all_told pm_all_told cd_all_told ct_all_told oc_is_name kV_is_name dc_is_name pm_is_name cd_is_name ct_is_name oc_is_kind kV_is_kind dc_is_kind pm_is_kind cd_is_kind ct_is_kind oc_number_of kV_number_of dc_number_of pm_number_of cd_number_of ct_number_of oc_atom_of kV_atom_of dc_atom_of pm_atom_of cd_atom_of ct_atom_of oc_path_of kV_path_of dc_path_of pm_path_of cd_path_of ct_path_of oc_given_of kV_given_of dc_given_of pm_given_of cd_given_of ct_given_of oc_set_of kV_set_of dc_set_of pm_set_of cd_set_of ct_set_of oc_make_of kV_make_of dc_make_of pm_make_of cd_make_of ct_make_of oc_call_of kV_call_of dc_call_of pm_call_of cd_call_of ct_call_of oc_path_row_of kV_path_row_of dc_path_row_of pm_path_row_of cd_path_row_of ct_path_row_of oc_pair_row_of kV_pair_row_of dc_pair_row_of pm_pair_row_of cd_pair_row_of ct_pair_row_of oc_into_row_of kV_into_row_of dc_into_row_of pm_into_row_of cd_into_row_of ct_into_row_of oc_single_row_of kV_single_row_of dc_single_row_of pm_single_row_of cd_single_row_of ct_single_row_of oc_row_by kV_row_by dc_row_by pm_row_by cd_row_by ct_row_by oc_record_by kV_record_by dc_record_by pm_record_by cd_record_by ct_record_by oc_param_by kV_param_by dc_param_by pm_param_by cd_param_by ct_param_by oc_Head_init kV_Head_init dc_Head_init pm_Head_init cd_Head_init ct_Head_init oc_head_by kV_head_by dc_head_by pm_head_by cd_head_by ct_head_by oc_Block_init kV_Block_init dc_Block_init pm_Block_init cd_Block_init ct_Block_init oc_Block_put kV_Block_put dc_Block_put pm_Block_put cd_Block_put ct_Block_put oc_Reader_init kV_Reader_init dc_Reader_init pm_Reader_init cd_Reader_init ct_Reader_init oc_Reader_opened kV_Reader_opened dc_Reader_opened pm_Reader_opened cd_Reader_opened ct_Reader_opened oc_Reader_turned kV_Reader_turned dc_Reader_turned pm_Reader_turned cd_Reader_turned ct_Reader_turned oc_Reader_shut kV_Reader_shut dc_Reader_shut pm_Reader_shut cd_Reader_shut ct_Reader_shut oc_Reader_finished kV_Reader_finished dc_Reader_finished pm_Reader_finished cd_Reader_finished ct_Reader_finished oc_Reader_within kV_Reader_within dc_Reader_within pm_Reader_within cd_Reader_within ct_Reader_within oc_Reader_without kV_Reader_without dc_Reader_without pm_Reader_without cd_Reader_without ct_Reader_without oc_Reader_good kV_Reader_good dc_Reader_good pm_Reader_good cd_Reader_good ct_Reader_good oc_read kV_read dc_read pm_read cd_read ct_read oc_Row_inner kV_Row_inner dc_Row_inner pm_Row_inner cd_Row_inner ct_Row_inner oc_IfRow_inner kV_IfRow_inner dc_IfRow_inner pm_IfRow_inner cd_IfRow_inner ct_IfRow_inner oc_WhileRow_inner kV_WhileRow_inner dc_WhileRow_inner pm_WhileRow_inner cd_WhileRow_inner ct_WhileRow_inner oc_l_draw kV_l_draw dc_l_draw pm_l_draw cd_l_draw ct_l_draw oc_l_rows_by kV_l_rows_by dc_l_rows_by pm_l_rows_by cd_l_rows_by ct_l_rows_by oc_l_last_row kV_l_last_row dc_l_last_row pm_l_last_row cd_l_last_row ct_l_last_row oc_l_built kV_l_built dc_l_built pm_l_built cd_l_built ct_l_built oc_l_counts kV_l_counts dc_l_counts pm_l_counts cd_l_counts ct_l_counts oc_law kV_law dc_law pm_law cd_law ct_law : Value}
    (zn_isinstance : PySem.W.nsIn K mainGlobals "isinstance" = some none)
    (zn_tuple : PySem.W.nsIn K mainGlobals "tuple" = some none)
    (zn_str : PySem.W.nsIn K mainGlobals "str" = some none)
    (zn_len : PySem.W.nsIn K mainGlobals "len" = some none)
    (zn_all : PySem.W.nsIn K mainGlobals "all" = some none)
    (zn_int : PySem.W.nsIn K mainGlobals "int" = some none)
    (zn_range : PySem.W.nsIn K mainGlobals "range" = some none)
    (zn_enumerate : PySem.W.nsIn K mainGlobals "enumerate" = some none)
    (zn_list : PySem.W.nsIn K mainGlobals "list" = some none)
    (zn_bool : PySem.W.nsIn K mainGlobals "bool" = some none)
    (zc_SetRow : PySem.W.nsIn K mainGlobals "SetRow" = some (some (.ref a_SetRow)))
    (zpg_SetRow : PySem.W.plainGet K a_SetRow Str.empty = true)
    (zhd_SetRow : PySem.W.hasDictIn K a_SetRow = true)
    (zpo_SetRow : PySem.W.plainOver K a_SetRow = true)
    (zsa_SetRow : PySem.W.findIn K (.ref a_SetRow) "__setattr__" = some (some (.builtin "object.__setattr__")))
    (zmk_SetRow : PySem.W.makesIn K a_SetRow = true)
    (zkc_SetRow : PySem.W.keepIn K (.ref a_SetRow) = true)
    (zna_SetRow_name : PySem.W.findIn K (.ref a_SetRow) "name" = some none)
    (zna_SetRow_one : PySem.W.findIn K (.ref a_SetRow) "one" = some none)
    (zna_SetRow_sign : PySem.W.findIn K (.ref a_SetRow) "sign" = some none)
    (zna_SetRow_other : PySem.W.findIn K (.ref a_SetRow) "other" = some none)
    (zc_MakeRow : PySem.W.nsIn K mainGlobals "MakeRow" = some (some (.ref a_MakeRow)))
    (zpg_MakeRow : PySem.W.plainGet K a_MakeRow Str.empty = true)
    (zhd_MakeRow : PySem.W.hasDictIn K a_MakeRow = true)
    (zpo_MakeRow : PySem.W.plainOver K a_MakeRow = true)
    (zsa_MakeRow : PySem.W.findIn K (.ref a_MakeRow) "__setattr__" = some (some (.builtin "object.__setattr__")))
    (zmk_MakeRow : PySem.W.makesIn K a_MakeRow = true)
    (zkc_MakeRow : PySem.W.keepIn K (.ref a_MakeRow) = true)
    (zna_MakeRow_name : PySem.W.findIn K (.ref a_MakeRow) "name" = some none)
    (zna_MakeRow_record : PySem.W.findIn K (.ref a_MakeRow) "record" = some none)
    (zna_MakeRow_atoms : PySem.W.findIn K (.ref a_MakeRow) "atoms" = some none)
    (zc_NoneRow : PySem.W.nsIn K mainGlobals "NoneRow" = some (some (.ref a_NoneRow)))
    (zpg_NoneRow : PySem.W.plainGet K a_NoneRow Str.empty = true)
    (zhd_NoneRow : PySem.W.hasDictIn K a_NoneRow = true)
    (zpo_NoneRow : PySem.W.plainOver K a_NoneRow = true)
    (zsa_NoneRow : PySem.W.findIn K (.ref a_NoneRow) "__setattr__" = some (some (.builtin "object.__setattr__")))
    (zmk_NoneRow : PySem.W.makesIn K a_NoneRow = true)
    (zkc_NoneRow : PySem.W.keepIn K (.ref a_NoneRow) = true)
    (zna_NoneRow_name : PySem.W.findIn K (.ref a_NoneRow) "name" = some none)
    (zna_NoneRow_record : PySem.W.findIn K (.ref a_NoneRow) "record" = some none)
    (zc_GiveRow : PySem.W.nsIn K mainGlobals "GiveRow" = some (some (.ref a_GiveRow)))
    (zpg_GiveRow : PySem.W.plainGet K a_GiveRow Str.empty = true)
    (zhd_GiveRow : PySem.W.hasDictIn K a_GiveRow = true)
    (zpo_GiveRow : PySem.W.plainOver K a_GiveRow = true)
    (zsa_GiveRow : PySem.W.findIn K (.ref a_GiveRow) "__setattr__" = some (some (.builtin "object.__setattr__")))
    (zmk_GiveRow : PySem.W.makesIn K a_GiveRow = true)
    (zkc_GiveRow : PySem.W.keepIn K (.ref a_GiveRow) = true)
    (zna_GiveRow_name : PySem.W.findIn K (.ref a_GiveRow) "name" = some none)
    (zna_GiveRow_other : PySem.W.findIn K (.ref a_GiveRow) "other" = some none)
    (zc_TakeRow : PySem.W.nsIn K mainGlobals "TakeRow" = some (some (.ref a_TakeRow)))
    (zpg_TakeRow : PySem.W.plainGet K a_TakeRow Str.empty = true)
    (zhd_TakeRow : PySem.W.hasDictIn K a_TakeRow = true)
    (zpo_TakeRow : PySem.W.plainOver K a_TakeRow = true)
    (zsa_TakeRow : PySem.W.findIn K (.ref a_TakeRow) "__setattr__" = some (some (.builtin "object.__setattr__")))
    (zmk_TakeRow : PySem.W.makesIn K a_TakeRow = true)
    (zkc_TakeRow : PySem.W.keepIn K (.ref a_TakeRow) = true)
    (zna_TakeRow_name : PySem.W.findIn K (.ref a_TakeRow) "name" = some none)
    (zna_TakeRow_path : PySem.W.findIn K (.ref a_TakeRow) "path" = some none)
    (zc_FillRow : PySem.W.nsIn K mainGlobals "FillRow" = some (some (.ref a_FillRow)))
    (zpg_FillRow : PySem.W.plainGet K a_FillRow Str.empty = true)
    (zhd_FillRow : PySem.W.hasDictIn K a_FillRow = true)
    (zpo_FillRow : PySem.W.plainOver K a_FillRow = true)
    (zsa_FillRow : PySem.W.findIn K (.ref a_FillRow) "__setattr__" = some (some (.builtin "object.__setattr__")))
    (zmk_FillRow : PySem.W.makesIn K a_FillRow = true)
    (zkc_FillRow : PySem.W.keepIn K (.ref a_FillRow) = true)
    (zna_FillRow_path : PySem.W.findIn K (.ref a_FillRow) "path" = some none)
    (zna_FillRow_name : PySem.W.findIn K (.ref a_FillRow) "name" = some none)
    (zc_SwapRow : PySem.W.nsIn K mainGlobals "SwapRow" = some (some (.ref a_SwapRow)))
    (zpg_SwapRow : PySem.W.plainGet K a_SwapRow Str.empty = true)
    (zhd_SwapRow : PySem.W.hasDictIn K a_SwapRow = true)
    (zpo_SwapRow : PySem.W.plainOver K a_SwapRow = true)
    (zsa_SwapRow : PySem.W.findIn K (.ref a_SwapRow) "__setattr__" = some (some (.builtin "object.__setattr__")))
    (zmk_SwapRow : PySem.W.makesIn K a_SwapRow = true)
    (zkc_SwapRow : PySem.W.keepIn K (.ref a_SwapRow) = true)
    (zna_SwapRow_name : PySem.W.findIn K (.ref a_SwapRow) "name" = some none)
    (zna_SwapRow_path : PySem.W.findIn K (.ref a_SwapRow) "path" = some none)
    (zc_GetRow : PySem.W.nsIn K mainGlobals "GetRow" = some (some (.ref a_GetRow)))
    (zpg_GetRow : PySem.W.plainGet K a_GetRow Str.empty = true)
    (zhd_GetRow : PySem.W.hasDictIn K a_GetRow = true)
    (zpo_GetRow : PySem.W.plainOver K a_GetRow = true)
    (zsa_GetRow : PySem.W.findIn K (.ref a_GetRow) "__setattr__" = some (some (.builtin "object.__setattr__")))
    (zmk_GetRow : PySem.W.makesIn K a_GetRow = true)
    (zkc_GetRow : PySem.W.keepIn K (.ref a_GetRow) = true)
    (zna_GetRow_name : PySem.W.findIn K (.ref a_GetRow) "name" = some none)
    (zna_GetRow_path : PySem.W.findIn K (.ref a_GetRow) "path" = some none)
    (zc_PutRow : PySem.W.nsIn K mainGlobals "PutRow" = some (some (.ref a_PutRow)))
    (zpg_PutRow : PySem.W.plainGet K a_PutRow Str.empty = true)
    (zhd_PutRow : PySem.W.hasDictIn K a_PutRow = true)
    (zpo_PutRow : PySem.W.plainOver K a_PutRow = true)
    (zsa_PutRow : PySem.W.findIn K (.ref a_PutRow) "__setattr__" = some (some (.builtin "object.__setattr__")))
    (zmk_PutRow : PySem.W.makesIn K a_PutRow = true)
    (zkc_PutRow : PySem.W.keepIn K (.ref a_PutRow) = true)
    (zna_PutRow_path : PySem.W.findIn K (.ref a_PutRow) "path" = some none)
    (zna_PutRow_atom : PySem.W.findIn K (.ref a_PutRow) "atom" = some none)
    (zc_HasRow : PySem.W.nsIn K mainGlobals "HasRow" = some (some (.ref a_HasRow)))
    (zpg_HasRow : PySem.W.plainGet K a_HasRow Str.empty = true)
    (zhd_HasRow : PySem.W.hasDictIn K a_HasRow = true)
    (zpo_HasRow : PySem.W.plainOver K a_HasRow = true)
    (zsa_HasRow : PySem.W.findIn K (.ref a_HasRow) "__setattr__" = some (some (.builtin "object.__setattr__")))
    (zmk_HasRow : PySem.W.makesIn K a_HasRow = true)
    (zkc_HasRow : PySem.W.keepIn K (.ref a_HasRow) = true)
    (zna_HasRow_name : PySem.W.findIn K (.ref a_HasRow) "name" = some none)
    (zna_HasRow_path : PySem.W.findIn K (.ref a_HasRow) "path" = some none)
    (zc_DropRow : PySem.W.nsIn K mainGlobals "DropRow" = some (some (.ref a_DropRow)))
    (zpg_DropRow : PySem.W.plainGet K a_DropRow Str.empty = true)
    (zhd_DropRow : PySem.W.hasDictIn K a_DropRow = true)
    (zpo_DropRow : PySem.W.plainOver K a_DropRow = true)
    (zsa_DropRow : PySem.W.findIn K (.ref a_DropRow) "__setattr__" = some (some (.builtin "object.__setattr__")))
    (zmk_DropRow : PySem.W.makesIn K a_DropRow = true)
    (zkc_DropRow : PySem.W.keepIn K (.ref a_DropRow) = true)
    (zna_DropRow_name : PySem.W.findIn K (.ref a_DropRow) "name" = some none)
    (zc_LendRow : PySem.W.nsIn K mainGlobals "LendRow" = some (some (.ref a_LendRow)))
    (zpg_LendRow : PySem.W.plainGet K a_LendRow Str.empty = true)
    (zhd_LendRow : PySem.W.hasDictIn K a_LendRow = true)
    (zpo_LendRow : PySem.W.plainOver K a_LendRow = true)
    (zsa_LendRow : PySem.W.findIn K (.ref a_LendRow) "__setattr__" = some (some (.builtin "object.__setattr__")))
    (zmk_LendRow : PySem.W.makesIn K a_LendRow = true)
    (zkc_LendRow : PySem.W.keepIn K (.ref a_LendRow) = true)
    (zna_LendRow_mode : PySem.W.findIn K (.ref a_LendRow) "mode" = some none)
    (zna_LendRow_name : PySem.W.findIn K (.ref a_LendRow) "name" = some none)
    (zna_LendRow_path : PySem.W.findIn K (.ref a_LendRow) "path" = some none)
    (zc_StepRow : PySem.W.nsIn K mainGlobals "StepRow" = some (some (.ref a_StepRow)))
    (zpg_StepRow : PySem.W.plainGet K a_StepRow Str.empty = true)
    (zhd_StepRow : PySem.W.hasDictIn K a_StepRow = true)
    (zpo_StepRow : PySem.W.plainOver K a_StepRow = true)
    (zsa_StepRow : PySem.W.findIn K (.ref a_StepRow) "__setattr__" = some (some (.builtin "object.__setattr__")))
    (zmk_StepRow : PySem.W.makesIn K a_StepRow = true)
    (zkc_StepRow : PySem.W.keepIn K (.ref a_StepRow) = true)
    (zna_StepRow_name : PySem.W.findIn K (.ref a_StepRow) "name" = some none)
    (zna_StepRow_field : PySem.W.findIn K (.ref a_StepRow) "field" = some none)
    (zc_CallRow : PySem.W.nsIn K mainGlobals "CallRow" = some (some (.ref a_CallRow)))
    (zpg_CallRow : PySem.W.plainGet K a_CallRow Str.empty = true)
    (zhd_CallRow : PySem.W.hasDictIn K a_CallRow = true)
    (zpo_CallRow : PySem.W.plainOver K a_CallRow = true)
    (zsa_CallRow : PySem.W.findIn K (.ref a_CallRow) "__setattr__" = some (some (.builtin "object.__setattr__")))
    (zmk_CallRow : PySem.W.makesIn K a_CallRow = true)
    (zkc_CallRow : PySem.W.keepIn K (.ref a_CallRow) = true)
    (zna_CallRow_name : PySem.W.findIn K (.ref a_CallRow) "name" = some none)
    (zna_CallRow_helper : PySem.W.findIn K (.ref a_CallRow) "helper" = some none)
    (zna_CallRow_given : PySem.W.findIn K (.ref a_CallRow) "given" = some none)
    (zc_BackRow : PySem.W.nsIn K mainGlobals "BackRow" = some (some (.ref a_BackRow)))
    (zpg_BackRow : PySem.W.plainGet K a_BackRow Str.empty = true)
    (zhd_BackRow : PySem.W.hasDictIn K a_BackRow = true)
    (zpo_BackRow : PySem.W.plainOver K a_BackRow = true)
    (zsa_BackRow : PySem.W.findIn K (.ref a_BackRow) "__setattr__" = some (some (.builtin "object.__setattr__")))
    (zmk_BackRow : PySem.W.makesIn K a_BackRow = true)
    (zkc_BackRow : PySem.W.keepIn K (.ref a_BackRow) = true)
    (zna_BackRow_atom : PySem.W.findIn K (.ref a_BackRow) "atom" = some none)
    (zc_AskRow : PySem.W.nsIn K mainGlobals "AskRow" = some (some (.ref a_AskRow)))
    (zpg_AskRow : PySem.W.plainGet K a_AskRow Str.empty = true)
    (zhd_AskRow : PySem.W.hasDictIn K a_AskRow = true)
    (zpo_AskRow : PySem.W.plainOver K a_AskRow = true)
    (zsa_AskRow : PySem.W.findIn K (.ref a_AskRow) "__setattr__" = some (some (.builtin "object.__setattr__")))
    (zmk_AskRow : PySem.W.makesIn K a_AskRow = true)
    (zkc_AskRow : PySem.W.keepIn K (.ref a_AskRow) = true)
    (zna_AskRow_name : PySem.W.findIn K (.ref a_AskRow) "name" = some none)
    (zc_TellRow : PySem.W.nsIn K mainGlobals "TellRow" = some (some (.ref a_TellRow)))
    (zpg_TellRow : PySem.W.plainGet K a_TellRow Str.empty = true)
    (zhd_TellRow : PySem.W.hasDictIn K a_TellRow = true)
    (zpo_TellRow : PySem.W.plainOver K a_TellRow = true)
    (zsa_TellRow : PySem.W.findIn K (.ref a_TellRow) "__setattr__" = some (some (.builtin "object.__setattr__")))
    (zmk_TellRow : PySem.W.makesIn K a_TellRow = true)
    (zkc_TellRow : PySem.W.keepIn K (.ref a_TellRow) = true)
    (zna_TellRow_atom : PySem.W.findIn K (.ref a_TellRow) "atom" = some none)
    (zc_IfRow : PySem.W.nsIn K mainGlobals "IfRow" = some (some (.ref a_IfRow)))
    (zpg_IfRow : PySem.W.plainGet K a_IfRow Str.empty = true)
    (zhd_IfRow : PySem.W.hasDictIn K a_IfRow = true)
    (zpo_IfRow : PySem.W.plainOver K a_IfRow = true)
    (zsa_IfRow : PySem.W.findIn K (.ref a_IfRow) "__setattr__" = some (some (.builtin "object.__setattr__")))
    (zmk_IfRow : PySem.W.makesIn K a_IfRow = true)
    (zkc_IfRow : PySem.W.keepIn K (.ref a_IfRow) = true)
    (zna_IfRow_atom : PySem.W.findIn K (.ref a_IfRow) "atom" = some none)
    (zna_IfRow_rows : PySem.W.findIn K (.ref a_IfRow) "rows" = some none)
    (zna_IfRow_others : PySem.W.findIn K (.ref a_IfRow) "others" = some none)
    (zc_WhileRow : PySem.W.nsIn K mainGlobals "WhileRow" = some (some (.ref a_WhileRow)))
    (zpg_WhileRow : PySem.W.plainGet K a_WhileRow Str.empty = true)
    (zhd_WhileRow : PySem.W.hasDictIn K a_WhileRow = true)
    (zpo_WhileRow : PySem.W.plainOver K a_WhileRow = true)
    (zsa_WhileRow : PySem.W.findIn K (.ref a_WhileRow) "__setattr__" = some (some (.builtin "object.__setattr__")))
    (zmk_WhileRow : PySem.W.makesIn K a_WhileRow = true)
    (zkc_WhileRow : PySem.W.keepIn K (.ref a_WhileRow) = true)
    (zna_WhileRow_atom : PySem.W.findIn K (.ref a_WhileRow) "atom" = some none)
    (zna_WhileRow_rows : PySem.W.findIn K (.ref a_WhileRow) "rows" = some none)
    (zc_Record : PySem.W.nsIn K mainGlobals "Record" = some (some (.ref a_Record)))
    (zpg_Record : PySem.W.plainGet K a_Record Str.empty = true)
    (zhd_Record : PySem.W.hasDictIn K a_Record = true)
    (zpo_Record : PySem.W.plainOver K a_Record = true)
    (zsa_Record : PySem.W.findIn K (.ref a_Record) "__setattr__" = some (some (.builtin "object.__setattr__")))
    (zmk_Record : PySem.W.makesIn K a_Record = true)
    (zkc_Record : PySem.W.keepIn K (.ref a_Record) = true)
    (zna_Record_name : PySem.W.findIn K (.ref a_Record) "name" = some none)
    (zna_Record_fields : PySem.W.findIn K (.ref a_Record) "fields" = some none)
    (zc_Helper : PySem.W.nsIn K mainGlobals "Helper" = some (some (.ref a_Helper)))
    (zpg_Helper : PySem.W.plainGet K a_Helper Str.empty = true)
    (zhd_Helper : PySem.W.hasDictIn K a_Helper = true)
    (zpo_Helper : PySem.W.plainOver K a_Helper = true)
    (zsa_Helper : PySem.W.findIn K (.ref a_Helper) "__setattr__" = some (some (.builtin "object.__setattr__")))
    (zmk_Helper : PySem.W.makesIn K a_Helper = true)
    (zkc_Helper : PySem.W.keepIn K (.ref a_Helper) = true)
    (zna_Helper_name : PySem.W.findIn K (.ref a_Helper) "name" = some none)
    (zna_Helper_params : PySem.W.findIn K (.ref a_Helper) "params" = some none)
    (zna_Helper_gives : PySem.W.findIn K (.ref a_Helper) "gives" = some none)
    (zna_Helper_rows : PySem.W.findIn K (.ref a_Helper) "rows" = some none)
    (zc_Program : PySem.W.nsIn K mainGlobals "Program" = some (some (.ref a_Program)))
    (zpg_Program : PySem.W.plainGet K a_Program Str.empty = true)
    (zhd_Program : PySem.W.hasDictIn K a_Program = true)
    (zpo_Program : PySem.W.plainOver K a_Program = true)
    (zsa_Program : PySem.W.findIn K (.ref a_Program) "__setattr__" = some (some (.builtin "object.__setattr__")))
    (zmk_Program : PySem.W.makesIn K a_Program = true)
    (zkc_Program : PySem.W.keepIn K (.ref a_Program) = true)
    (zna_Program_records : PySem.W.findIn K (.ref a_Program) "records" = some none)
    (zna_Program_helpers : PySem.W.findIn K (.ref a_Program) "helpers" = some none)
    (zc_Row : PySem.W.nsIn K mainGlobals "Row" = some (some (.ref a_Row)))
    (zpg_Row : PySem.W.plainGet K a_Row Str.empty = true)
    (zhd_Row : PySem.W.hasDictIn K a_Row = true)
    (zpo_Row : PySem.W.plainOver K a_Row = true)
    (zsa_Row : PySem.W.findIn K (.ref a_Row) "__setattr__" = some (some (.builtin "object.__setattr__")))
    (zc_Head : PySem.W.nsIn K mainGlobals "Head" = some (some (.ref a_Head)))
    (zpg_Head : PySem.W.plainGet K a_Head Str.empty = true)
    (zhd_Head : PySem.W.hasDictIn K a_Head = true)
    (zpo_Head : PySem.W.plainOver K a_Head = true)
    (zsa_Head : PySem.W.findIn K (.ref a_Head) "__setattr__" = some (some (.builtin "object.__setattr__")))
    (zmk_Head : PySem.W.makesIn K a_Head = true)
    (zkc_Head : PySem.W.keepIn K (.ref a_Head) = true)
    (zna_Head_name : PySem.W.findIn K (.ref a_Head) "name" = some none)
    (zna_Head_params : PySem.W.findIn K (.ref a_Head) "params" = some none)
    (zna_Head_gives : PySem.W.findIn K (.ref a_Head) "gives" = some none)
    (zc_Block : PySem.W.nsIn K mainGlobals "Block" = some (some (.ref a_Block)))
    (zpg_Block : PySem.W.plainGet K a_Block Str.empty = true)
    (zhd_Block : PySem.W.hasDictIn K a_Block = true)
    (zpo_Block : PySem.W.plainOver K a_Block = true)
    (zsa_Block : PySem.W.findIn K (.ref a_Block) "__setattr__" = some (some (.builtin "object.__setattr__")))
    (zmk_Block : PySem.W.makesIn K a_Block = true)
    (zkc_Block : PySem.W.keepIn K (.ref a_Block) = true)
    (zna_Block_word : PySem.W.findIn K (.ref a_Block) "word" = some none)
    (zna_Block_atom : PySem.W.findIn K (.ref a_Block) "atom" = some none)
    (zna_Block_rows : PySem.W.findIn K (.ref a_Block) "rows" = some none)
    (zna_Block_others : PySem.W.findIn K (.ref a_Block) "others" = some none)
    (zna_Block_beyond : PySem.W.findIn K (.ref a_Block) "beyond" = some none)
    (zc_Reader : PySem.W.nsIn K mainGlobals "Reader" = some (some (.ref a_Reader)))
    (zpg_Reader : PySem.W.plainGet K a_Reader Str.empty = true)
    (zhd_Reader : PySem.W.hasDictIn K a_Reader = true)
    (zpo_Reader : PySem.W.plainOver K a_Reader = true)
    (zsa_Reader : PySem.W.findIn K (.ref a_Reader) "__setattr__" = some (some (.builtin "object.__setattr__")))
    (zmk_Reader : PySem.W.makesIn K a_Reader = true)
    (zkc_Reader : PySem.W.keepIn K (.ref a_Reader) = true)
    (zna_Reader_records : PySem.W.findIn K (.ref a_Reader) "records" = some none)
    (zna_Reader_helpers : PySem.W.findIn K (.ref a_Reader) "helpers" = some none)
    (zna_Reader_begun : PySem.W.findIn K (.ref a_Reader) "begun" = some none)
    (zna_Reader_blocks : PySem.W.findIn K (.ref a_Reader) "blocks" = some none)
    (zna_Reader_points : PySem.W.findIn K (.ref a_Reader) "points" = some none)
    (zc_NoText : PySem.W.nsIn K mainGlobals "NoText" = some (some (.ref a_NoText)))
    (zox_NoText : oexCB K a_NoText = true)
    (zxf_NoText : xfB K a_NoText = true)
    (zsx_NoText : PySem.W.findIn K (.ref a_NoText) "__setattr__" = some (some (.builtin "object.__setattr__")))
    (zbx_NoText : PySem.W.subIn K (.ref a_NoText) (.type "BaseException") = some true)
    (ztx_NoText : PySem.W.typeIn K (.ref a_NoText) = some (.type "type"))
    (zkx_NoText : PySem.W.keepIn K (.ref a_NoText) = true)
    (zti_NoText : PySem.W.typeIn K (.ref f_NoText_init) = some (.type "function"))
    (zxa_NoText_where : PySem.W.findIn K (.ref a_NoText) "where" = some none)
    (zmm_NoText_NoText : PySem.W.exmOne K (.ref a_NoText) (.ref a_NoText) = some true)
    (zkk_NoText_NoText : PySem.W.kitOne K (.ref a_NoText) (.ref a_NoText) = some true)
    (zc_HoldError : PySem.W.nsIn K mainGlobals "HoldError" = some (some (.ref a_HoldError)))
    (zhd_HoldError : holdB K a_HoldError = true)
    (zmc_LETTERS : ∃ t, PySem.W.nsIn K mainGlobals "LETTERS" = some (some (.str "abcdefghijklmnopqrstuvwxyz" t)))
    (zmc_FIGURES : ∃ t, PySem.W.nsIn K mainGlobals "FIGURES" = some (some (.str "0123456789" t)))
    (zmc_SIGNS : ∃ a, PySem.W.nsIn K mainGlobals "SIGNS" = some (some (.ref a)) ∧ ∀ H : Hp, SqT K H a ([("+" : Str), ("-" : Str), ("*" : Str), ("<" : Str), ("=" : Str)].map V.str))
    (zmc_KEPT : ∃ a, PySem.W.nsIn K mainGlobals "KEPT" = some (some (.ref a)) ∧ ∀ H : Hp, SqT K H a ([("record" : Str), ("helper" : Str), ("gives" : Str), ("end" : Str), ("if" : Str), ("else" : Str), ("fi" : Str), ("while" : Str), ("od" : Str), ("set" : Str), ("has" : Str), ("make" : Str), ("none" : Str), ("give" : Str), ("take" : Str), ("fill" : Str), ("swap" : Str), ("get" : Str), ("put" : Str), ("drop" : Str), ("look" : Str), ("hand" : Str), ("step" : Str), ("call" : Str), ("to" : Str), ("back" : Str), ("ask" : Str), ("tell" : Str), ("num" : Str)].map V.str))
    (zmc_LONGEST : ∃ t, PySem.W.nsIn K mainGlobals "LONGEST" = some (some (.int (8) t)))
    (zmc_GREATEST : ∃ t, PySem.W.nsIn K mainGlobals "GREATEST" = some (some (.int (1000002) t)))
    (zmc_MOST_RECORDS : ∃ t, PySem.W.nsIn K mainGlobals "MOST_RECORDS" = some (some (.int (6) t)))
    (zmc_MOST_FIELDS : ∃ t, PySem.W.nsIn K mainGlobals "MOST_FIELDS" = some (some (.int (4) t)))
    (zmc_MOST_HELPERS : ∃ t, PySem.W.nsIn K mainGlobals "MOST_HELPERS" = some (some (.int (6) t)))
    (zmc_MOST_PARAMS : ∃ t, PySem.W.nsIn K mainGlobals "MOST_PARAMS" = some (some (.int (6) t)))
    (zmc_MOST_ROWS : ∃ t, PySem.W.nsIn K mainGlobals "MOST_ROWS" = some (some (.int (60) t)))
    (zmc_MOST_DEEP : ∃ t, PySem.W.nsIn K mainGlobals "MOST_DEEP" = some (some (.int (8) t)))
    (zmc_MOST_PATH : ∃ t, PySem.W.nsIn K mainGlobals "MOST_PATH" = some (some (.int (4) t)))
    (zisi : isiB K [a_SetRow, a_MakeRow, a_NoneRow, a_GiveRow, a_TakeRow, a_FillRow, a_SwapRow, a_GetRow, a_PutRow, a_HasRow, a_DropRow, a_LendRow, a_StepRow, a_CallRow, a_BackRow, a_AskRow, a_TellRow, a_IfRow, a_WhileRow] a_Row = true)
    (za_NoText_init : PySem.W.findIn K (.ref a_NoText) "__init__" = some (some (.ref f_NoText_init)))
    (zi_NoText_init : PySem.W.isFn K (.ref f_NoText_init) = true)
    (zl_NoText_init : K.lookup f_NoText_init = some ⟨oc_NoText_init, od_NoText_init, .func (PySem.W.fnOf "__init__" "NoText.__init__" (defArgs s_NoText_init) (defBody s_NoText_init) (defScope s_NoText_init) .none kV_NoText_init dc_NoText_init pm_NoText_init an_NoText_init cd_NoText_init ct_NoText_init), sl_NoText_init⟩)
    (zd_NoText_init : PySem.W.codeIn K cd_NoText_init "NoText.__init__" = true)
    (zk_NoText_init : PySem.W.keepIn K (.ref f_NoText_init) = true)
    (za_shown : PySem.W.nsIn K mainGlobals "shown" = some (some (.ref f_shown)))
    (zl_shown : K.lookup f_shown = some ⟨oc_shown, od_shown, .func (PySem.W.fnOf "shown" "shown" (defArgs s_shown) (defBody s_shown) (defScope s_shown) .none kV_shown dc_shown pm_shown an_shown cd_shown ct_shown), sl_shown⟩)
    (zd_shown : PySem.W.codeIn K cd_shown "shown" = true)
    (zk_shown : PySem.W.keepIn K (.ref f_shown) = true)
    (zm_NoneRow_head : PySem.W.findIn K (.ref a_NoneRow) "head" = some (some (.ref f_Row_head)))
    (zm_GiveRow_head : PySem.W.findIn K (.ref a_GiveRow) "head" = some (some (.ref f_Row_head)))
    (zm_TakeRow_head : PySem.W.findIn K (.ref a_TakeRow) "head" = some (some (.ref f_Row_head)))
    (zm_FillRow_head : PySem.W.findIn K (.ref a_FillRow) "head" = some (some (.ref f_Row_head)))
    (zm_SwapRow_head : PySem.W.findIn K (.ref a_SwapRow) "head" = some (some (.ref f_Row_head)))
    (zm_GetRow_head : PySem.W.findIn K (.ref a_GetRow) "head" = some (some (.ref f_Row_head)))
    (zm_PutRow_head : PySem.W.findIn K (.ref a_PutRow) "head" = some (some (.ref f_Row_head)))
    (zm_DropRow_head : PySem.W.findIn K (.ref a_DropRow) "head" = some (some (.ref f_Row_head)))
    (zm_LendRow_head : PySem.W.findIn K (.ref a_LendRow) "head" = some (some (.ref f_Row_head)))
    (zm_StepRow_head : PySem.W.findIn K (.ref a_StepRow) "head" = some (some (.ref f_Row_head)))
    (zm_BackRow_head : PySem.W.findIn K (.ref a_BackRow) "head" = some (some (.ref f_Row_head)))
    (zm_AskRow_head : PySem.W.findIn K (.ref a_AskRow) "head" = some (some (.ref f_Row_head)))
    (zm_TellRow_head : PySem.W.findIn K (.ref a_TellRow) "head" = some (some (.ref f_Row_head)))
    (zi_Row_head : PySem.W.isFn K (.ref f_Row_head) = true)
    (zl_Row_head : K.lookup f_Row_head = some ⟨oc_Row_head, od_Row_head, .func (PySem.W.fnOf "head" "Row.head" (defArgs s_Row_head) (defBody s_Row_head) (defScope s_Row_head) .none kV_Row_head dc_Row_head pm_Row_head an_Row_head cd_Row_head ct_Row_head), sl_Row_head⟩)
    (zd_Row_head : PySem.W.codeIn K cd_Row_head "Row.head" = true)
    (zk_Row_head : PySem.W.keepIn K (.ref f_Row_head) = true)
    (za_SetRow_init : PySem.W.findIn K (.ref a_SetRow) "__init__" = some (some (.ref f_SetRow_init)))
    (zi_SetRow_init : PySem.W.isFn K (.ref f_SetRow_init) = true)
    (zl_SetRow_init : K.lookup f_SetRow_init = some ⟨oc_SetRow_init, od_SetRow_init, .func (PySem.W.fnOf "__init__" "SetRow.__init__" (defArgs s_SetRow_init) (defBody s_SetRow_init) (defScope s_SetRow_init) .none kV_SetRow_init dc_SetRow_init pm_SetRow_init an_SetRow_init cd_SetRow_init ct_SetRow_init), sl_SetRow_init⟩)
    (zd_SetRow_init : PySem.W.codeIn K cd_SetRow_init "SetRow.__init__" = true)
    (zk_SetRow_init : PySem.W.keepIn K (.ref f_SetRow_init) = true)
    (zm_SetRow_told : PySem.W.findIn K (.ref a_SetRow) "told" = some (some (.ref f_SetRow_told)))
    (zi_SetRow_told : PySem.W.isFn K (.ref f_SetRow_told) = true)
    (zl_SetRow_told : K.lookup f_SetRow_told = some ⟨oc_SetRow_told, od_SetRow_told, .func (PySem.W.fnOf "told" "SetRow.told" (defArgs s_SetRow_told) (defBody s_SetRow_told) (defScope s_SetRow_told) .none kV_SetRow_told dc_SetRow_told pm_SetRow_told an_SetRow_told cd_SetRow_told ct_SetRow_told), sl_SetRow_told⟩)
    (zd_SetRow_told : PySem.W.codeIn K cd_SetRow_told "SetRow.told" = true)
    (zk_SetRow_told : PySem.W.keepIn K (.ref f_SetRow_told) = true)
    (za_MakeRow_init : PySem.W.findIn K (.ref a_MakeRow) "__init__" = some (some (.ref f_MakeRow_init)))
    (zi_MakeRow_init : PySem.W.isFn K (.ref f_MakeRow_init) = true)
    (zl_MakeRow_init : K.lookup f_MakeRow_init = some ⟨oc_MakeRow_init, od_MakeRow_init, .func (PySem.W.fnOf "__init__" "MakeRow.__init__" (defArgs s_MakeRow_init) (defBody s_MakeRow_init) (defScope s_MakeRow_init) .none kV_MakeRow_init dc_MakeRow_init pm_MakeRow_init an_MakeRow_init cd_MakeRow_init ct_MakeRow_init), sl_MakeRow_init⟩)
    (zd_MakeRow_init : PySem.W.codeIn K cd_MakeRow_init "MakeRow.__init__" = true)
    (zk_MakeRow_init : PySem.W.keepIn K (.ref f_MakeRow_init) = true)
    (zm_MakeRow_told : PySem.W.findIn K (.ref a_MakeRow) "told" = some (some (.ref f_MakeRow_told)))
    (zi_MakeRow_told : PySem.W.isFn K (.ref f_MakeRow_told) = true)
    (zl_MakeRow_told : K.lookup f_MakeRow_told = some ⟨oc_MakeRow_told, od_MakeRow_told, .func (PySem.W.fnOf "told" "MakeRow.told" (defArgs s_MakeRow_told) (defBody s_MakeRow_told) (defScope s_MakeRow_told) .none kV_MakeRow_told dc_MakeRow_told pm_MakeRow_told an_MakeRow_told cd_MakeRow_told ct_MakeRow_told), sl_MakeRow_told⟩)
    (zd_MakeRow_told : PySem.W.codeIn K cd_MakeRow_told "MakeRow.told" = true)
    (zk_MakeRow_told : PySem.W.keepIn K (.ref f_MakeRow_told) = true)
    (za_NoneRow_init : PySem.W.findIn K (.ref a_NoneRow) "__init__" = some (some (.ref f_NoneRow_init)))
    (zi_NoneRow_init : PySem.W.isFn K (.ref f_NoneRow_init) = true)
    (zl_NoneRow_init : K.lookup f_NoneRow_init = some ⟨oc_NoneRow_init, od_NoneRow_init, .func (PySem.W.fnOf "__init__" "NoneRow.__init__" (defArgs s_NoneRow_init) (defBody s_NoneRow_init) (defScope s_NoneRow_init) .none kV_NoneRow_init dc_NoneRow_init pm_NoneRow_init an_NoneRow_init cd_NoneRow_init ct_NoneRow_init), sl_NoneRow_init⟩)
    (zd_NoneRow_init : PySem.W.codeIn K cd_NoneRow_init "NoneRow.__init__" = true)
    (zk_NoneRow_init : PySem.W.keepIn K (.ref f_NoneRow_init) = true)
    (zm_NoneRow_told : PySem.W.findIn K (.ref a_NoneRow) "told" = some (some (.ref f_NoneRow_told)))
    (zi_NoneRow_told : PySem.W.isFn K (.ref f_NoneRow_told) = true)
    (zl_NoneRow_told : K.lookup f_NoneRow_told = some ⟨oc_NoneRow_told, od_NoneRow_told, .func (PySem.W.fnOf "told" "NoneRow.told" (defArgs s_NoneRow_told) (defBody s_NoneRow_told) (defScope s_NoneRow_told) .none kV_NoneRow_told dc_NoneRow_told pm_NoneRow_told an_NoneRow_told cd_NoneRow_told ct_NoneRow_told), sl_NoneRow_told⟩)
    (zd_NoneRow_told : PySem.W.codeIn K cd_NoneRow_told "NoneRow.told" = true)
    (zk_NoneRow_told : PySem.W.keepIn K (.ref f_NoneRow_told) = true)
    (za_GiveRow_init : PySem.W.findIn K (.ref a_GiveRow) "__init__" = some (some (.ref f_GiveRow_init)))
    (zi_GiveRow_init : PySem.W.isFn K (.ref f_GiveRow_init) = true)
    (zl_GiveRow_init : K.lookup f_GiveRow_init = some ⟨oc_GiveRow_init, od_GiveRow_init, .func (PySem.W.fnOf "__init__" "GiveRow.__init__" (defArgs s_GiveRow_init) (defBody s_GiveRow_init) (defScope s_GiveRow_init) .none kV_GiveRow_init dc_GiveRow_init pm_GiveRow_init an_GiveRow_init cd_GiveRow_init ct_GiveRow_init), sl_GiveRow_init⟩)
    (zd_GiveRow_init : PySem.W.codeIn K cd_GiveRow_init "GiveRow.__init__" = true)
    (zk_GiveRow_init : PySem.W.keepIn K (.ref f_GiveRow_init) = true)
    (zm_GiveRow_told : PySem.W.findIn K (.ref a_GiveRow) "told" = some (some (.ref f_GiveRow_told)))
    (zi_GiveRow_told : PySem.W.isFn K (.ref f_GiveRow_told) = true)
    (zl_GiveRow_told : K.lookup f_GiveRow_told = some ⟨oc_GiveRow_told, od_GiveRow_told, .func (PySem.W.fnOf "told" "GiveRow.told" (defArgs s_GiveRow_told) (defBody s_GiveRow_told) (defScope s_GiveRow_told) .none kV_GiveRow_told dc_GiveRow_told pm_GiveRow_told an_GiveRow_told cd_GiveRow_told ct_GiveRow_told), sl_GiveRow_told⟩)
    (zd_GiveRow_told : PySem.W.codeIn K cd_GiveRow_told "GiveRow.told" = true)
    (zk_GiveRow_told : PySem.W.keepIn K (.ref f_GiveRow_told) = true)
    (za_TakeRow_init : PySem.W.findIn K (.ref a_TakeRow) "__init__" = some (some (.ref f_TakeRow_init)))
    (zi_TakeRow_init : PySem.W.isFn K (.ref f_TakeRow_init) = true)
    (zl_TakeRow_init : K.lookup f_TakeRow_init = some ⟨oc_TakeRow_init, od_TakeRow_init, .func (PySem.W.fnOf "__init__" "TakeRow.__init__" (defArgs s_TakeRow_init) (defBody s_TakeRow_init) (defScope s_TakeRow_init) .none kV_TakeRow_init dc_TakeRow_init pm_TakeRow_init an_TakeRow_init cd_TakeRow_init ct_TakeRow_init), sl_TakeRow_init⟩)
    (zd_TakeRow_init : PySem.W.codeIn K cd_TakeRow_init "TakeRow.__init__" = true)
    (zk_TakeRow_init : PySem.W.keepIn K (.ref f_TakeRow_init) = true)
    (zm_TakeRow_told : PySem.W.findIn K (.ref a_TakeRow) "told" = some (some (.ref f_TakeRow_told)))
    (zi_TakeRow_told : PySem.W.isFn K (.ref f_TakeRow_told) = true)
    (zl_TakeRow_told : K.lookup f_TakeRow_told = some ⟨oc_TakeRow_told, od_TakeRow_told, .func (PySem.W.fnOf "told" "TakeRow.told" (defArgs s_TakeRow_told) (defBody s_TakeRow_told) (defScope s_TakeRow_told) .none kV_TakeRow_told dc_TakeRow_told pm_TakeRow_told an_TakeRow_told cd_TakeRow_told ct_TakeRow_told), sl_TakeRow_told⟩)
    (zd_TakeRow_told : PySem.W.codeIn K cd_TakeRow_told "TakeRow.told" = true)
    (zk_TakeRow_told : PySem.W.keepIn K (.ref f_TakeRow_told) = true)
    (za_FillRow_init : PySem.W.findIn K (.ref a_FillRow) "__init__" = some (some (.ref f_FillRow_init)))
    (zi_FillRow_init : PySem.W.isFn K (.ref f_FillRow_init) = true)
    (zl_FillRow_init : K.lookup f_FillRow_init = some ⟨oc_FillRow_init, od_FillRow_init, .func (PySem.W.fnOf "__init__" "FillRow.__init__" (defArgs s_FillRow_init) (defBody s_FillRow_init) (defScope s_FillRow_init) .none kV_FillRow_init dc_FillRow_init pm_FillRow_init an_FillRow_init cd_FillRow_init ct_FillRow_init), sl_FillRow_init⟩)
    (zd_FillRow_init : PySem.W.codeIn K cd_FillRow_init "FillRow.__init__" = true)
    (zk_FillRow_init : PySem.W.keepIn K (.ref f_FillRow_init) = true)
    (zm_FillRow_told : PySem.W.findIn K (.ref a_FillRow) "told" = some (some (.ref f_FillRow_told)))
    (zi_FillRow_told : PySem.W.isFn K (.ref f_FillRow_told) = true)
    (zl_FillRow_told : K.lookup f_FillRow_told = some ⟨oc_FillRow_told, od_FillRow_told, .func (PySem.W.fnOf "told" "FillRow.told" (defArgs s_FillRow_told) (defBody s_FillRow_told) (defScope s_FillRow_told) .none kV_FillRow_told dc_FillRow_told pm_FillRow_told an_FillRow_told cd_FillRow_told ct_FillRow_told), sl_FillRow_told⟩)
    (zd_FillRow_told : PySem.W.codeIn K cd_FillRow_told "FillRow.told" = true)
    (zk_FillRow_told : PySem.W.keepIn K (.ref f_FillRow_told) = true)
    (za_SwapRow_init : PySem.W.findIn K (.ref a_SwapRow) "__init__" = some (some (.ref f_SwapRow_init)))
    (zi_SwapRow_init : PySem.W.isFn K (.ref f_SwapRow_init) = true)
    (zl_SwapRow_init : K.lookup f_SwapRow_init = some ⟨oc_SwapRow_init, od_SwapRow_init, .func (PySem.W.fnOf "__init__" "SwapRow.__init__" (defArgs s_SwapRow_init) (defBody s_SwapRow_init) (defScope s_SwapRow_init) .none kV_SwapRow_init dc_SwapRow_init pm_SwapRow_init an_SwapRow_init cd_SwapRow_init ct_SwapRow_init), sl_SwapRow_init⟩)
    (zd_SwapRow_init : PySem.W.codeIn K cd_SwapRow_init "SwapRow.__init__" = true)
    (zk_SwapRow_init : PySem.W.keepIn K (.ref f_SwapRow_init) = true)
    (zm_SwapRow_told : PySem.W.findIn K (.ref a_SwapRow) "told" = some (some (.ref f_SwapRow_told)))
    (zi_SwapRow_told : PySem.W.isFn K (.ref f_SwapRow_told) = true)
    (zl_SwapRow_told : K.lookup f_SwapRow_told = some ⟨oc_SwapRow_told, od_SwapRow_told, .func (PySem.W.fnOf "told" "SwapRow.told" (defArgs s_SwapRow_told) (defBody s_SwapRow_told) (defScope s_SwapRow_told) .none kV_SwapRow_told dc_SwapRow_told pm_SwapRow_told an_SwapRow_told cd_SwapRow_told ct_SwapRow_told), sl_SwapRow_told⟩)
    (zd_SwapRow_told : PySem.W.codeIn K cd_SwapRow_told "SwapRow.told" = true)
    (zk_SwapRow_told : PySem.W.keepIn K (.ref f_SwapRow_told) = true)
    (za_GetRow_init : PySem.W.findIn K (.ref a_GetRow) "__init__" = some (some (.ref f_GetRow_init)))
    (zi_GetRow_init : PySem.W.isFn K (.ref f_GetRow_init) = true)
    (zl_GetRow_init : K.lookup f_GetRow_init = some ⟨oc_GetRow_init, od_GetRow_init, .func (PySem.W.fnOf "__init__" "GetRow.__init__" (defArgs s_GetRow_init) (defBody s_GetRow_init) (defScope s_GetRow_init) .none kV_GetRow_init dc_GetRow_init pm_GetRow_init an_GetRow_init cd_GetRow_init ct_GetRow_init), sl_GetRow_init⟩)
    (zd_GetRow_init : PySem.W.codeIn K cd_GetRow_init "GetRow.__init__" = true)
    (zk_GetRow_init : PySem.W.keepIn K (.ref f_GetRow_init) = true)
    (zm_GetRow_told : PySem.W.findIn K (.ref a_GetRow) "told" = some (some (.ref f_GetRow_told)))
    (zi_GetRow_told : PySem.W.isFn K (.ref f_GetRow_told) = true)
    (zl_GetRow_told : K.lookup f_GetRow_told = some ⟨oc_GetRow_told, od_GetRow_told, .func (PySem.W.fnOf "told" "GetRow.told" (defArgs s_GetRow_told) (defBody s_GetRow_told) (defScope s_GetRow_told) .none kV_GetRow_told dc_GetRow_told pm_GetRow_told an_GetRow_told cd_GetRow_told ct_GetRow_told), sl_GetRow_told⟩)
    (zd_GetRow_told : PySem.W.codeIn K cd_GetRow_told "GetRow.told" = true)
    (zk_GetRow_told : PySem.W.keepIn K (.ref f_GetRow_told) = true)
    (za_PutRow_init : PySem.W.findIn K (.ref a_PutRow) "__init__" = some (some (.ref f_PutRow_init)))
    (zi_PutRow_init : PySem.W.isFn K (.ref f_PutRow_init) = true)
    (zl_PutRow_init : K.lookup f_PutRow_init = some ⟨oc_PutRow_init, od_PutRow_init, .func (PySem.W.fnOf "__init__" "PutRow.__init__" (defArgs s_PutRow_init) (defBody s_PutRow_init) (defScope s_PutRow_init) .none kV_PutRow_init dc_PutRow_init pm_PutRow_init an_PutRow_init cd_PutRow_init ct_PutRow_init), sl_PutRow_init⟩)
    (zd_PutRow_init : PySem.W.codeIn K cd_PutRow_init "PutRow.__init__" = true)
    (zk_PutRow_init : PySem.W.keepIn K (.ref f_PutRow_init) = true)
    (zm_PutRow_told : PySem.W.findIn K (.ref a_PutRow) "told" = some (some (.ref f_PutRow_told)))
    (zi_PutRow_told : PySem.W.isFn K (.ref f_PutRow_told) = true)
    (zl_PutRow_told : K.lookup f_PutRow_told = some ⟨oc_PutRow_told, od_PutRow_told, .func (PySem.W.fnOf "told" "PutRow.told" (defArgs s_PutRow_told) (defBody s_PutRow_told) (defScope s_PutRow_told) .none kV_PutRow_told dc_PutRow_told pm_PutRow_told an_PutRow_told cd_PutRow_told ct_PutRow_told), sl_PutRow_told⟩)
    (zd_PutRow_told : PySem.W.codeIn K cd_PutRow_told "PutRow.told" = true)
    (zk_PutRow_told : PySem.W.keepIn K (.ref f_PutRow_told) = true)
    (za_HasRow_init : PySem.W.findIn K (.ref a_HasRow) "__init__" = some (some (.ref f_HasRow_init)))
    (zi_HasRow_init : PySem.W.isFn K (.ref f_HasRow_init) = true)
    (zl_HasRow_init : K.lookup f_HasRow_init = some ⟨oc_HasRow_init, od_HasRow_init, .func (PySem.W.fnOf "__init__" "HasRow.__init__" (defArgs s_HasRow_init) (defBody s_HasRow_init) (defScope s_HasRow_init) .none kV_HasRow_init dc_HasRow_init pm_HasRow_init an_HasRow_init cd_HasRow_init ct_HasRow_init), sl_HasRow_init⟩)
    (zd_HasRow_init : PySem.W.codeIn K cd_HasRow_init "HasRow.__init__" = true)
    (zk_HasRow_init : PySem.W.keepIn K (.ref f_HasRow_init) = true)
    (zm_HasRow_told : PySem.W.findIn K (.ref a_HasRow) "told" = some (some (.ref f_HasRow_told)))
    (zi_HasRow_told : PySem.W.isFn K (.ref f_HasRow_told) = true)
    (zl_HasRow_told : K.lookup f_HasRow_told = some ⟨oc_HasRow_told, od_HasRow_told, .func (PySem.W.fnOf "told" "HasRow.told" (defArgs s_HasRow_told) (defBody s_HasRow_told) (defScope s_HasRow_told) .none kV_HasRow_told dc_HasRow_told pm_HasRow_told an_HasRow_told cd_HasRow_told ct_HasRow_told), sl_HasRow_told⟩)
    (zd_HasRow_told : PySem.W.codeIn K cd_HasRow_told "HasRow.told" = true)
    (zk_HasRow_told : PySem.W.keepIn K (.ref f_HasRow_told) = true)
    (za_DropRow_init : PySem.W.findIn K (.ref a_DropRow) "__init__" = some (some (.ref f_DropRow_init)))
    (zi_DropRow_init : PySem.W.isFn K (.ref f_DropRow_init) = true)
    (zl_DropRow_init : K.lookup f_DropRow_init = some ⟨oc_DropRow_init, od_DropRow_init, .func (PySem.W.fnOf "__init__" "DropRow.__init__" (defArgs s_DropRow_init) (defBody s_DropRow_init) (defScope s_DropRow_init) .none kV_DropRow_init dc_DropRow_init pm_DropRow_init an_DropRow_init cd_DropRow_init ct_DropRow_init), sl_DropRow_init⟩)
    (zd_DropRow_init : PySem.W.codeIn K cd_DropRow_init "DropRow.__init__" = true)
    (zk_DropRow_init : PySem.W.keepIn K (.ref f_DropRow_init) = true)
    (zm_DropRow_told : PySem.W.findIn K (.ref a_DropRow) "told" = some (some (.ref f_DropRow_told)))
    (zi_DropRow_told : PySem.W.isFn K (.ref f_DropRow_told) = true)
    (zl_DropRow_told : K.lookup f_DropRow_told = some ⟨oc_DropRow_told, od_DropRow_told, .func (PySem.W.fnOf "told" "DropRow.told" (defArgs s_DropRow_told) (defBody s_DropRow_told) (defScope s_DropRow_told) .none kV_DropRow_told dc_DropRow_told pm_DropRow_told an_DropRow_told cd_DropRow_told ct_DropRow_told), sl_DropRow_told⟩)
    (zd_DropRow_told : PySem.W.codeIn K cd_DropRow_told "DropRow.told" = true)
    (zk_DropRow_told : PySem.W.keepIn K (.ref f_DropRow_told) = true)
    (za_LendRow_init : PySem.W.findIn K (.ref a_LendRow) "__init__" = some (some (.ref f_LendRow_init)))
    (zi_LendRow_init : PySem.W.isFn K (.ref f_LendRow_init) = true)
    (zl_LendRow_init : K.lookup f_LendRow_init = some ⟨oc_LendRow_init, od_LendRow_init, .func (PySem.W.fnOf "__init__" "LendRow.__init__" (defArgs s_LendRow_init) (defBody s_LendRow_init) (defScope s_LendRow_init) .none kV_LendRow_init dc_LendRow_init pm_LendRow_init an_LendRow_init cd_LendRow_init ct_LendRow_init), sl_LendRow_init⟩)
    (zd_LendRow_init : PySem.W.codeIn K cd_LendRow_init "LendRow.__init__" = true)
    (zk_LendRow_init : PySem.W.keepIn K (.ref f_LendRow_init) = true)
    (zm_LendRow_told : PySem.W.findIn K (.ref a_LendRow) "told" = some (some (.ref f_LendRow_told)))
    (zi_LendRow_told : PySem.W.isFn K (.ref f_LendRow_told) = true)
    (zl_LendRow_told : K.lookup f_LendRow_told = some ⟨oc_LendRow_told, od_LendRow_told, .func (PySem.W.fnOf "told" "LendRow.told" (defArgs s_LendRow_told) (defBody s_LendRow_told) (defScope s_LendRow_told) .none kV_LendRow_told dc_LendRow_told pm_LendRow_told an_LendRow_told cd_LendRow_told ct_LendRow_told), sl_LendRow_told⟩)
    (zd_LendRow_told : PySem.W.codeIn K cd_LendRow_told "LendRow.told" = true)
    (zk_LendRow_told : PySem.W.keepIn K (.ref f_LendRow_told) = true)
    (za_StepRow_init : PySem.W.findIn K (.ref a_StepRow) "__init__" = some (some (.ref f_StepRow_init)))
    (zi_StepRow_init : PySem.W.isFn K (.ref f_StepRow_init) = true)
    (zl_StepRow_init : K.lookup f_StepRow_init = some ⟨oc_StepRow_init, od_StepRow_init, .func (PySem.W.fnOf "__init__" "StepRow.__init__" (defArgs s_StepRow_init) (defBody s_StepRow_init) (defScope s_StepRow_init) .none kV_StepRow_init dc_StepRow_init pm_StepRow_init an_StepRow_init cd_StepRow_init ct_StepRow_init), sl_StepRow_init⟩)
    (zd_StepRow_init : PySem.W.codeIn K cd_StepRow_init "StepRow.__init__" = true)
    (zk_StepRow_init : PySem.W.keepIn K (.ref f_StepRow_init) = true)
    (zm_StepRow_told : PySem.W.findIn K (.ref a_StepRow) "told" = some (some (.ref f_StepRow_told)))
    (zi_StepRow_told : PySem.W.isFn K (.ref f_StepRow_told) = true)
    (zl_StepRow_told : K.lookup f_StepRow_told = some ⟨oc_StepRow_told, od_StepRow_told, .func (PySem.W.fnOf "told" "StepRow.told" (defArgs s_StepRow_told) (defBody s_StepRow_told) (defScope s_StepRow_told) .none kV_StepRow_told dc_StepRow_told pm_StepRow_told an_StepRow_told cd_StepRow_told ct_StepRow_told), sl_StepRow_told⟩)
    (zd_StepRow_told : PySem.W.codeIn K cd_StepRow_told "StepRow.told" = true)
    (zk_StepRow_told : PySem.W.keepIn K (.ref f_StepRow_told) = true)
    (za_CallRow_init : PySem.W.findIn K (.ref a_CallRow) "__init__" = some (some (.ref f_CallRow_init)))
    (zi_CallRow_init : PySem.W.isFn K (.ref f_CallRow_init) = true)
    (zl_CallRow_init : K.lookup f_CallRow_init = some ⟨oc_CallRow_init, od_CallRow_init, .func (PySem.W.fnOf "__init__" "CallRow.__init__" (defArgs s_CallRow_init) (defBody s_CallRow_init) (defScope s_CallRow_init) .none kV_CallRow_init dc_CallRow_init pm_CallRow_init an_CallRow_init cd_CallRow_init ct_CallRow_init), sl_CallRow_init⟩)
    (zd_CallRow_init : PySem.W.codeIn K cd_CallRow_init "CallRow.__init__" = true)
    (zk_CallRow_init : PySem.W.keepIn K (.ref f_CallRow_init) = true)
    (zm_CallRow_told : PySem.W.findIn K (.ref a_CallRow) "told" = some (some (.ref f_CallRow_told)))
    (zi_CallRow_told : PySem.W.isFn K (.ref f_CallRow_told) = true)
    (zl_CallRow_told : K.lookup f_CallRow_told = some ⟨oc_CallRow_told, od_CallRow_told, .func (PySem.W.fnOf "told" "CallRow.told" (defArgs s_CallRow_told) (defBody s_CallRow_told) (defScope s_CallRow_told) .none kV_CallRow_told dc_CallRow_told pm_CallRow_told an_CallRow_told cd_CallRow_told ct_CallRow_told), sl_CallRow_told⟩)
    (zd_CallRow_told : PySem.W.codeIn K cd_CallRow_told "CallRow.told" = true)
    (zk_CallRow_told : PySem.W.keepIn K (.ref f_CallRow_told) = true)
    (za_BackRow_init : PySem.W.findIn K (.ref a_BackRow) "__init__" = some (some (.ref f_BackRow_init)))
    (zi_BackRow_init : PySem.W.isFn K (.ref f_BackRow_init) = true)
    (zl_BackRow_init : K.lookup f_BackRow_init = some ⟨oc_BackRow_init, od_BackRow_init, .func (PySem.W.fnOf "__init__" "BackRow.__init__" (defArgs s_BackRow_init) (defBody s_BackRow_init) (defScope s_BackRow_init) .none kV_BackRow_init dc_BackRow_init pm_BackRow_init an_BackRow_init cd_BackRow_init ct_BackRow_init), sl_BackRow_init⟩)
    (zd_BackRow_init : PySem.W.codeIn K cd_BackRow_init "BackRow.__init__" = true)
    (zk_BackRow_init : PySem.W.keepIn K (.ref f_BackRow_init) = true)
    (zm_BackRow_told : PySem.W.findIn K (.ref a_BackRow) "told" = some (some (.ref f_BackRow_told)))
    (zi_BackRow_told : PySem.W.isFn K (.ref f_BackRow_told) = true)
    (zl_BackRow_told : K.lookup f_BackRow_told = some ⟨oc_BackRow_told, od_BackRow_told, .func (PySem.W.fnOf "told" "BackRow.told" (defArgs s_BackRow_told) (defBody s_BackRow_told) (defScope s_BackRow_told) .none kV_BackRow_told dc_BackRow_told pm_BackRow_told an_BackRow_told cd_BackRow_told ct_BackRow_told), sl_BackRow_told⟩)
    (zd_BackRow_told : PySem.W.codeIn K cd_BackRow_told "BackRow.told" = true)
    (zk_BackRow_told : PySem.W.keepIn K (.ref f_BackRow_told) = true)
    (za_AskRow_init : PySem.W.findIn K (.ref a_AskRow) "__init__" = some (some (.ref f_AskRow_init)))
    (zi_AskRow_init : PySem.W.isFn K (.ref f_AskRow_init) = true)
    (zl_AskRow_init : K.lookup f_AskRow_init = some ⟨oc_AskRow_init, od_AskRow_init, .func (PySem.W.fnOf "__init__" "AskRow.__init__" (defArgs s_AskRow_init) (defBody s_AskRow_init) (defScope s_AskRow_init) .none kV_AskRow_init dc_AskRow_init pm_AskRow_init an_AskRow_init cd_AskRow_init ct_AskRow_init), sl_AskRow_init⟩)
    (zd_AskRow_init : PySem.W.codeIn K cd_AskRow_init "AskRow.__init__" = true)
    (zk_AskRow_init : PySem.W.keepIn K (.ref f_AskRow_init) = true)
    (zm_AskRow_told : PySem.W.findIn K (.ref a_AskRow) "told" = some (some (.ref f_AskRow_told)))
    (zi_AskRow_told : PySem.W.isFn K (.ref f_AskRow_told) = true)
    (zl_AskRow_told : K.lookup f_AskRow_told = some ⟨oc_AskRow_told, od_AskRow_told, .func (PySem.W.fnOf "told" "AskRow.told" (defArgs s_AskRow_told) (defBody s_AskRow_told) (defScope s_AskRow_told) .none kV_AskRow_told dc_AskRow_told pm_AskRow_told an_AskRow_told cd_AskRow_told ct_AskRow_told), sl_AskRow_told⟩)
    (zd_AskRow_told : PySem.W.codeIn K cd_AskRow_told "AskRow.told" = true)
    (zk_AskRow_told : PySem.W.keepIn K (.ref f_AskRow_told) = true)
    (za_TellRow_init : PySem.W.findIn K (.ref a_TellRow) "__init__" = some (some (.ref f_TellRow_init)))
    (zi_TellRow_init : PySem.W.isFn K (.ref f_TellRow_init) = true)
    (zl_TellRow_init : K.lookup f_TellRow_init = some ⟨oc_TellRow_init, od_TellRow_init, .func (PySem.W.fnOf "__init__" "TellRow.__init__" (defArgs s_TellRow_init) (defBody s_TellRow_init) (defScope s_TellRow_init) .none kV_TellRow_init dc_TellRow_init pm_TellRow_init an_TellRow_init cd_TellRow_init ct_TellRow_init), sl_TellRow_init⟩)
    (zd_TellRow_init : PySem.W.codeIn K cd_TellRow_init "TellRow.__init__" = true)
    (zk_TellRow_init : PySem.W.keepIn K (.ref f_TellRow_init) = true)
    (zm_TellRow_told : PySem.W.findIn K (.ref a_TellRow) "told" = some (some (.ref f_TellRow_told)))
    (zi_TellRow_told : PySem.W.isFn K (.ref f_TellRow_told) = true)
    (zl_TellRow_told : K.lookup f_TellRow_told = some ⟨oc_TellRow_told, od_TellRow_told, .func (PySem.W.fnOf "told" "TellRow.told" (defArgs s_TellRow_told) (defBody s_TellRow_told) (defScope s_TellRow_told) .none kV_TellRow_told dc_TellRow_told pm_TellRow_told an_TellRow_told cd_TellRow_told ct_TellRow_told), sl_TellRow_told⟩)
    (zd_TellRow_told : PySem.W.codeIn K cd_TellRow_told "TellRow.told" = true)
    (zk_TellRow_told : PySem.W.keepIn K (.ref f_TellRow_told) = true)
    (za_IfRow_init : PySem.W.findIn K (.ref a_IfRow) "__init__" = some (some (.ref f_IfRow_init)))
    (zi_IfRow_init : PySem.W.isFn K (.ref f_IfRow_init) = true)
    (zl_IfRow_init : K.lookup f_IfRow_init = some ⟨oc_IfRow_init, od_IfRow_init, .func (PySem.W.fnOf "__init__" "IfRow.__init__" (defArgs s_IfRow_init) (defBody s_IfRow_init) (defScope s_IfRow_init) .none kV_IfRow_init dc_IfRow_init pm_IfRow_init an_IfRow_init cd_IfRow_init ct_IfRow_init), sl_IfRow_init⟩)
    (zd_IfRow_init : PySem.W.codeIn K cd_IfRow_init "IfRow.__init__" = true)
    (zk_IfRow_init : PySem.W.keepIn K (.ref f_IfRow_init) = true)
    (zm_IfRow_told : PySem.W.findIn K (.ref a_IfRow) "told" = some (some (.ref f_IfRow_told)))
    (zi_IfRow_told : PySem.W.isFn K (.ref f_IfRow_told) = true)
    (zl_IfRow_told : K.lookup f_IfRow_told = some ⟨oc_IfRow_told, od_IfRow_told, .func (PySem.W.fnOf "told" "IfRow.told" (defArgs s_IfRow_told) (defBody s_IfRow_told) (defScope s_IfRow_told) .none kV_IfRow_told dc_IfRow_told pm_IfRow_told an_IfRow_told cd_IfRow_told ct_IfRow_told), sl_IfRow_told⟩)
    (zd_IfRow_told : PySem.W.codeIn K cd_IfRow_told "IfRow.told" = true)
    (zk_IfRow_told : PySem.W.keepIn K (.ref f_IfRow_told) = true)
    (za_WhileRow_init : PySem.W.findIn K (.ref a_WhileRow) "__init__" = some (some (.ref f_WhileRow_init)))
    (zi_WhileRow_init : PySem.W.isFn K (.ref f_WhileRow_init) = true)
    (zl_WhileRow_init : K.lookup f_WhileRow_init = some ⟨oc_WhileRow_init, od_WhileRow_init, .func (PySem.W.fnOf "__init__" "WhileRow.__init__" (defArgs s_WhileRow_init) (defBody s_WhileRow_init) (defScope s_WhileRow_init) .none kV_WhileRow_init dc_WhileRow_init pm_WhileRow_init an_WhileRow_init cd_WhileRow_init ct_WhileRow_init), sl_WhileRow_init⟩)
    (zd_WhileRow_init : PySem.W.codeIn K cd_WhileRow_init "WhileRow.__init__" = true)
    (zk_WhileRow_init : PySem.W.keepIn K (.ref f_WhileRow_init) = true)
    (zm_WhileRow_told : PySem.W.findIn K (.ref a_WhileRow) "told" = some (some (.ref f_WhileRow_told)))
    (zi_WhileRow_told : PySem.W.isFn K (.ref f_WhileRow_told) = true)
    (zl_WhileRow_told : K.lookup f_WhileRow_told = some ⟨oc_WhileRow_told, od_WhileRow_told, .func (PySem.W.fnOf "told" "WhileRow.told" (defArgs s_WhileRow_told) (defBody s_WhileRow_told) (defScope s_WhileRow_told) .none kV_WhileRow_told dc_WhileRow_told pm_WhileRow_told an_WhileRow_told cd_WhileRow_told ct_WhileRow_told), sl_WhileRow_told⟩)
    (zd_WhileRow_told : PySem.W.codeIn K cd_WhileRow_told "WhileRow.told" = true)
    (zk_WhileRow_told : PySem.W.keepIn K (.ref f_WhileRow_told) = true)
    (za_Record_init : PySem.W.findIn K (.ref a_Record) "__init__" = some (some (.ref f_Record_init)))
    (zi_Record_init : PySem.W.isFn K (.ref f_Record_init) = true)
    (zl_Record_init : K.lookup f_Record_init = some ⟨oc_Record_init, od_Record_init, .func (PySem.W.fnOf "__init__" "Record.__init__" (defArgs s_Record_init) (defBody s_Record_init) (defScope s_Record_init) .none kV_Record_init dc_Record_init pm_Record_init an_Record_init cd_Record_init ct_Record_init), sl_Record_init⟩)
    (zd_Record_init : PySem.W.codeIn K cd_Record_init "Record.__init__" = true)
    (zk_Record_init : PySem.W.keepIn K (.ref f_Record_init) = true)
    (zm_Record_told : PySem.W.findIn K (.ref a_Record) "told" = some (some (.ref f_Record_told)))
    (zi_Record_told : PySem.W.isFn K (.ref f_Record_told) = true)
    (zl_Record_told : K.lookup f_Record_told = some ⟨oc_Record_told, od_Record_told, .func (PySem.W.fnOf "told" "Record.told" (defArgs s_Record_told) (defBody s_Record_told) (defScope s_Record_told) .none kV_Record_told dc_Record_told pm_Record_told an_Record_told cd_Record_told ct_Record_told), sl_Record_told⟩)
    (zd_Record_told : PySem.W.codeIn K cd_Record_told "Record.told" = true)
    (zk_Record_told : PySem.W.keepIn K (.ref f_Record_told) = true)
    (za_Helper_init : PySem.W.findIn K (.ref a_Helper) "__init__" = some (some (.ref f_Helper_init)))
    (zi_Helper_init : PySem.W.isFn K (.ref f_Helper_init) = true)
    (zl_Helper_init : K.lookup f_Helper_init = some ⟨oc_Helper_init, od_Helper_init, .func (PySem.W.fnOf "__init__" "Helper.__init__" (defArgs s_Helper_init) (defBody s_Helper_init) (defScope s_Helper_init) .none kV_Helper_init dc_Helper_init pm_Helper_init an_Helper_init cd_Helper_init ct_Helper_init), sl_Helper_init⟩)
    (zd_Helper_init : PySem.W.codeIn K cd_Helper_init "Helper.__init__" = true)
    (zk_Helper_init : PySem.W.keepIn K (.ref f_Helper_init) = true)
    (zm_Helper_told : PySem.W.findIn K (.ref a_Helper) "told" = some (some (.ref f_Helper_told)))
    (zi_Helper_told : PySem.W.isFn K (.ref f_Helper_told) = true)
    (zl_Helper_told : K.lookup f_Helper_told = some ⟨oc_Helper_told, od_Helper_told, .func (PySem.W.fnOf "told" "Helper.told" (defArgs s_Helper_told) (defBody s_Helper_told) (defScope s_Helper_told) .none kV_Helper_told dc_Helper_told pm_Helper_told an_Helper_told cd_Helper_told ct_Helper_told), sl_Helper_told⟩)
    (zd_Helper_told : PySem.W.codeIn K cd_Helper_told "Helper.told" = true)
    (zk_Helper_told : PySem.W.keepIn K (.ref f_Helper_told) = true)
    (za_Program_init : PySem.W.findIn K (.ref a_Program) "__init__" = some (some (.ref f_Program_init)))
    (zi_Program_init : PySem.W.isFn K (.ref f_Program_init) = true)
    (zl_Program_init : K.lookup f_Program_init = some ⟨oc_Program_init, od_Program_init, .func (PySem.W.fnOf "__init__" "Program.__init__" (defArgs s_Program_init) (defBody s_Program_init) (defScope s_Program_init) .none kV_Program_init dc_Program_init pm_Program_init an_Program_init cd_Program_init ct_Program_init), sl_Program_init⟩)
    (zd_Program_init : PySem.W.codeIn K cd_Program_init "Program.__init__" = true)
    (zk_Program_init : PySem.W.keepIn K (.ref f_Program_init) = true)
    (zm_Program_told : PySem.W.findIn K (.ref a_Program) "told" = some (some (.ref f_Program_told)))
    (zi_Program_told : PySem.W.isFn K (.ref f_Program_told) = true)
    (zl_Program_told : K.lookup f_Program_told = some ⟨oc_Program_told, od_Program_told, .func (PySem.W.fnOf "told" "Program.told" (defArgs s_Program_told) (defBody s_Program_told) (defScope s_Program_told) .none kV_Program_told dc_Program_told pm_Program_told an_Program_told cd_Program_told ct_Program_told), sl_Program_told⟩)
    (zd_Program_told : PySem.W.codeIn K cd_Program_told "Program.told" = true)
    (zk_Program_told : PySem.W.keepIn K (.ref f_Program_told) = true)
    (zm_SetRow_head : PySem.W.findIn K (.ref a_SetRow) "head" = some (some (.ref f_SetRow_head)))
    (zi_SetRow_head : PySem.W.isFn K (.ref f_SetRow_head) = true)
    (zl_SetRow_head : K.lookup f_SetRow_head = some ⟨oc_SetRow_head, od_SetRow_head, .func (PySem.W.fnOf "head" "SetRow.head" (defArgs s_SetRow_head) (defBody s_SetRow_head) (defScope s_SetRow_head) .none kV_SetRow_head dc_SetRow_head pm_SetRow_head an_SetRow_head cd_SetRow_head ct_SetRow_head), sl_SetRow_head⟩)
    (zd_SetRow_head : PySem.W.codeIn K cd_SetRow_head "SetRow.head" = true)
    (zk_SetRow_head : PySem.W.keepIn K (.ref f_SetRow_head) = true)
    (zm_MakeRow_head : PySem.W.findIn K (.ref a_MakeRow) "head" = some (some (.ref f_MakeRow_head)))
    (zi_MakeRow_head : PySem.W.isFn K (.ref f_MakeRow_head) = true)
    (zl_MakeRow_head : K.lookup f_MakeRow_head = some ⟨oc_MakeRow_head, od_MakeRow_head, .func (PySem.W.fnOf "head" "MakeRow.head" (defArgs s_MakeRow_head) (defBody s_MakeRow_head) (defScope s_MakeRow_head) .none kV_MakeRow_head dc_MakeRow_head pm_MakeRow_head an_MakeRow_head cd_MakeRow_head ct_MakeRow_head), sl_MakeRow_head⟩)
    (zd_MakeRow_head : PySem.W.codeIn K cd_MakeRow_head "MakeRow.head" = true)
    (zk_MakeRow_head : PySem.W.keepIn K (.ref f_MakeRow_head) = true)
    (zm_HasRow_head : PySem.W.findIn K (.ref a_HasRow) "head" = some (some (.ref f_HasRow_head)))
    (zi_HasRow_head : PySem.W.isFn K (.ref f_HasRow_head) = true)
    (zl_HasRow_head : K.lookup f_HasRow_head = some ⟨oc_HasRow_head, od_HasRow_head, .func (PySem.W.fnOf "head" "HasRow.head" (defArgs s_HasRow_head) (defBody s_HasRow_head) (defScope s_HasRow_head) .none kV_HasRow_head dc_HasRow_head pm_HasRow_head an_HasRow_head cd_HasRow_head ct_HasRow_head), sl_HasRow_head⟩)
    (zd_HasRow_head : PySem.W.codeIn K cd_HasRow_head "HasRow.head" = true)
    (zk_HasRow_head : PySem.W.keepIn K (.ref f_HasRow_head) = true)
    (zm_CallRow_head : PySem.W.findIn K (.ref a_CallRow) "head" = some (some (.ref f_CallRow_head)))
    (zi_CallRow_head : PySem.W.isFn K (.ref f_CallRow_head) = true)
    (zl_CallRow_head : K.lookup f_CallRow_head = some ⟨oc_CallRow_head, od_CallRow_head, .func (PySem.W.fnOf "head" "CallRow.head" (defArgs s_CallRow_head) (defBody s_CallRow_head) (defScope s_CallRow_head) .none kV_CallRow_head dc_CallRow_head pm_CallRow_head an_CallRow_head cd_CallRow_head ct_CallRow_head), sl_CallRow_head⟩)
    (zd_CallRow_head : PySem.W.codeIn K cd_CallRow_head "CallRow.head" = true)
    (zk_CallRow_head : PySem.W.keepIn K (.ref f_CallRow_head) = true)
    (zm_IfRow_head : PySem.W.findIn K (.ref a_IfRow) "head" = some (some (.ref f_IfRow_head)))
    (zi_IfRow_head : PySem.W.isFn K (.ref f_IfRow_head) = true)
    (zl_IfRow_head : K.lookup f_IfRow_head = some ⟨oc_IfRow_head, od_IfRow_head, .func (PySem.W.fnOf "head" "IfRow.head" (defArgs s_IfRow_head) (defBody s_IfRow_head) (defScope s_IfRow_head) .none kV_IfRow_head dc_IfRow_head pm_IfRow_head an_IfRow_head cd_IfRow_head ct_IfRow_head), sl_IfRow_head⟩)
    (zd_IfRow_head : PySem.W.codeIn K cd_IfRow_head "IfRow.head" = true)
    (zk_IfRow_head : PySem.W.keepIn K (.ref f_IfRow_head) = true)
    (zm_WhileRow_head : PySem.W.findIn K (.ref a_WhileRow) "head" = some (some (.ref f_WhileRow_head)))
    (zi_WhileRow_head : PySem.W.isFn K (.ref f_WhileRow_head) = true)
    (zl_WhileRow_head : K.lookup f_WhileRow_head = some ⟨oc_WhileRow_head, od_WhileRow_head, .func (PySem.W.fnOf "head" "WhileRow.head" (defArgs s_WhileRow_head) (defBody s_WhileRow_head) (defScope s_WhileRow_head) .none kV_WhileRow_head dc_WhileRow_head pm_WhileRow_head an_WhileRow_head cd_WhileRow_head ct_WhileRow_head), sl_WhileRow_head⟩)
    (zd_WhileRow_head : PySem.W.codeIn K cd_WhileRow_head "WhileRow.head" = true)
    (zk_WhileRow_head : PySem.W.keepIn K (.ref f_WhileRow_head) = true)
    (za_all_told : PySem.W.nsIn K mainGlobals "all_told" = some (some (.ref f_all_told)))
    (zl_all_told : K.lookup f_all_told = some ⟨oc_all_told, od_all_told, .func (PySem.W.fnOf "all_told" "all_told" (defArgs s_all_told) (defBody s_all_told) (defScope s_all_told) .none kV_all_told dc_all_told pm_all_told an_all_told cd_all_told ct_all_told), sl_all_told⟩)
    (zd_all_told : PySem.W.codeIn K cd_all_told "all_told" = true)
    (zk_all_told : PySem.W.keepIn K (.ref f_all_told) = true)
    (za_is_name : PySem.W.nsIn K mainGlobals "is_name" = some (some (.ref f_is_name)))
    (zl_is_name : K.lookup f_is_name = some ⟨oc_is_name, od_is_name, .func (PySem.W.fnOf "is_name" "is_name" (defArgs s_is_name) (defBody s_is_name) (defScope s_is_name) .none kV_is_name dc_is_name pm_is_name an_is_name cd_is_name ct_is_name), sl_is_name⟩)
    (zd_is_name : PySem.W.codeIn K cd_is_name "is_name" = true)
    (zk_is_name : PySem.W.keepIn K (.ref f_is_name) = true)
    (za_is_kind : PySem.W.nsIn K mainGlobals "is_kind" = some (some (.ref f_is_kind)))
    (zl_is_kind : K.lookup f_is_kind = some ⟨oc_is_kind, od_is_kind, .func (PySem.W.fnOf "is_kind" "is_kind" (defArgs s_is_kind) (defBody s_is_kind) (defScope s_is_kind) .none kV_is_kind dc_is_kind pm_is_kind an_is_kind cd_is_kind ct_is_kind), sl_is_kind⟩)
    (zd_is_kind : PySem.W.codeIn K cd_is_kind "is_kind" = true)
    (zk_is_kind : PySem.W.keepIn K (.ref f_is_kind) = true)
    (za_number_of : PySem.W.nsIn K mainGlobals "number_of" = some (some (.ref f_number_of)))
    (zl_number_of : K.lookup f_number_of = some ⟨oc_number_of, od_number_of, .func (PySem.W.fnOf "number_of" "number_of" (defArgs s_number_of) (defBody s_number_of) (defScope s_number_of) .none kV_number_of dc_number_of pm_number_of an_number_of cd_number_of ct_number_of), sl_number_of⟩)
    (zd_number_of : PySem.W.codeIn K cd_number_of "number_of" = true)
    (zk_number_of : PySem.W.keepIn K (.ref f_number_of) = true)
    (za_atom_of : PySem.W.nsIn K mainGlobals "atom_of" = some (some (.ref f_atom_of)))
    (zl_atom_of : K.lookup f_atom_of = some ⟨oc_atom_of, od_atom_of, .func (PySem.W.fnOf "atom_of" "atom_of" (defArgs s_atom_of) (defBody s_atom_of) (defScope s_atom_of) .none kV_atom_of dc_atom_of pm_atom_of an_atom_of cd_atom_of ct_atom_of), sl_atom_of⟩)
    (zd_atom_of : PySem.W.codeIn K cd_atom_of "atom_of" = true)
    (zk_atom_of : PySem.W.keepIn K (.ref f_atom_of) = true)
    (za_path_of : PySem.W.nsIn K mainGlobals "path_of" = some (some (.ref f_path_of)))
    (zl_path_of : K.lookup f_path_of = some ⟨oc_path_of, od_path_of, .func (PySem.W.fnOf "path_of" "path_of" (defArgs s_path_of) (defBody s_path_of) (defScope s_path_of) .none kV_path_of dc_path_of pm_path_of an_path_of cd_path_of ct_path_of), sl_path_of⟩)
    (zd_path_of : PySem.W.codeIn K cd_path_of "path_of" = true)
    (zk_path_of : PySem.W.keepIn K (.ref f_path_of) = true)
    (za_given_of : PySem.W.nsIn K mainGlobals "given_of" = some (some (.ref f_given_of)))
    (zl_given_of : K.lookup f_given_of = some ⟨oc_given_of, od_given_of, .func (PySem.W.fnOf "given_of" "given_of" (defArgs s_given_of) (defBody s_given_of) (defScope s_given_of) .none kV_given_of dc_given_of pm_given_of an_given_of cd_given_of ct_given_of), sl_given_of⟩)
    (zd_given_of : PySem.W.codeIn K cd_given_of "given_of" = true)
    (zk_given_of : PySem.W.keepIn K (.ref f_given_of) = true)
    (za_set_of : PySem.W.nsIn K mainGlobals "set_of" = some (some (.ref f_set_of)))
    (zl_set_of : K.lookup f_set_of = some ⟨oc_set_of, od_set_of, .func (PySem.W.fnOf "set_of" "set_of" (defArgs s_set_of) (defBody s_set_of) (defScope s_set_of) .none kV_set_of dc_set_of pm_set_of an_set_of cd_set_of ct_set_of), sl_set_of⟩)
    (zd_set_of : PySem.W.codeIn K cd_set_of "set_of" = true)
    (zk_set_of : PySem.W.keepIn K (.ref f_set_of) = true)
    (za_make_of : PySem.W.nsIn K mainGlobals "make_of" = some (some (.ref f_make_of)))
    (zl_make_of : K.lookup f_make_of = some ⟨oc_make_of, od_make_of, .func (PySem.W.fnOf "make_of" "make_of" (defArgs s_make_of) (defBody s_make_of) (defScope s_make_of) .none kV_make_of dc_make_of pm_make_of an_make_of cd_make_of ct_make_of), sl_make_of⟩)
    (zd_make_of : PySem.W.codeIn K cd_make_of "make_of" = true)
    (zk_make_of : PySem.W.keepIn K (.ref f_make_of) = true)
    (za_call_of : PySem.W.nsIn K mainGlobals "call_of" = some (some (.ref f_call_of)))
    (zl_call_of : K.lookup f_call_of = some ⟨oc_call_of, od_call_of, .func (PySem.W.fnOf "call_of" "call_of" (defArgs s_call_of) (defBody s_call_of) (defScope s_call_of) .none kV_call_of dc_call_of pm_call_of an_call_of cd_call_of ct_call_of), sl_call_of⟩)
    (zd_call_of : PySem.W.codeIn K cd_call_of "call_of" = true)
    (zk_call_of : PySem.W.keepIn K (.ref f_call_of) = true)
    (za_path_row_of : PySem.W.nsIn K mainGlobals "path_row_of" = some (some (.ref f_path_row_of)))
    (zl_path_row_of : K.lookup f_path_row_of = some ⟨oc_path_row_of, od_path_row_of, .func (PySem.W.fnOf "path_row_of" "path_row_of" (defArgs s_path_row_of) (defBody s_path_row_of) (defScope s_path_row_of) .none kV_path_row_of dc_path_row_of pm_path_row_of an_path_row_of cd_path_row_of ct_path_row_of), sl_path_row_of⟩)
    (zd_path_row_of : PySem.W.codeIn K cd_path_row_of "path_row_of" = true)
    (zk_path_row_of : PySem.W.keepIn K (.ref f_path_row_of) = true)
    (za_pair_row_of : PySem.W.nsIn K mainGlobals "pair_row_of" = some (some (.ref f_pair_row_of)))
    (zl_pair_row_of : K.lookup f_pair_row_of = some ⟨oc_pair_row_of, od_pair_row_of, .func (PySem.W.fnOf "pair_row_of" "pair_row_of" (defArgs s_pair_row_of) (defBody s_pair_row_of) (defScope s_pair_row_of) .none kV_pair_row_of dc_pair_row_of pm_pair_row_of an_pair_row_of cd_pair_row_of ct_pair_row_of), sl_pair_row_of⟩)
    (zd_pair_row_of : PySem.W.codeIn K cd_pair_row_of "pair_row_of" = true)
    (zk_pair_row_of : PySem.W.keepIn K (.ref f_pair_row_of) = true)
    (za_into_row_of : PySem.W.nsIn K mainGlobals "into_row_of" = some (some (.ref f_into_row_of)))
    (zl_into_row_of : K.lookup f_into_row_of = some ⟨oc_into_row_of, od_into_row_of, .func (PySem.W.fnOf "into_row_of" "into_row_of" (defArgs s_into_row_of) (defBody s_into_row_of) (defScope s_into_row_of) .none kV_into_row_of dc_into_row_of pm_into_row_of an_into_row_of cd_into_row_of ct_into_row_of), sl_into_row_of⟩)
    (zd_into_row_of : PySem.W.codeIn K cd_into_row_of "into_row_of" = true)
    (zk_into_row_of : PySem.W.keepIn K (.ref f_into_row_of) = true)
    (za_single_row_of : PySem.W.nsIn K mainGlobals "single_row_of" = some (some (.ref f_single_row_of)))
    (zl_single_row_of : K.lookup f_single_row_of = some ⟨oc_single_row_of, od_single_row_of, .func (PySem.W.fnOf "single_row_of" "single_row_of" (defArgs s_single_row_of) (defBody s_single_row_of) (defScope s_single_row_of) .none kV_single_row_of dc_single_row_of pm_single_row_of an_single_row_of cd_single_row_of ct_single_row_of), sl_single_row_of⟩)
    (zd_single_row_of : PySem.W.codeIn K cd_single_row_of "single_row_of" = true)
    (zk_single_row_of : PySem.W.keepIn K (.ref f_single_row_of) = true)
    (za_row_by : PySem.W.nsIn K mainGlobals "row_by" = some (some (.ref f_row_by)))
    (zl_row_by : K.lookup f_row_by = some ⟨oc_row_by, od_row_by, .func (PySem.W.fnOf "row_by" "row_by" (defArgs s_row_by) (defBody s_row_by) (defScope s_row_by) .none kV_row_by dc_row_by pm_row_by an_row_by cd_row_by ct_row_by), sl_row_by⟩)
    (zd_row_by : PySem.W.codeIn K cd_row_by "row_by" = true)
    (zk_row_by : PySem.W.keepIn K (.ref f_row_by) = true)
    (za_record_by : PySem.W.nsIn K mainGlobals "record_by" = some (some (.ref f_record_by)))
    (zl_record_by : K.lookup f_record_by = some ⟨oc_record_by, od_record_by, .func (PySem.W.fnOf "record_by" "record_by" (defArgs s_record_by) (defBody s_record_by) (defScope s_record_by) .none kV_record_by dc_record_by pm_record_by an_record_by cd_record_by ct_record_by), sl_record_by⟩)
    (zd_record_by : PySem.W.codeIn K cd_record_by "record_by" = true)
    (zk_record_by : PySem.W.keepIn K (.ref f_record_by) = true)
    (za_param_by : PySem.W.nsIn K mainGlobals "param_by" = some (some (.ref f_param_by)))
    (zl_param_by : K.lookup f_param_by = some ⟨oc_param_by, od_param_by, .func (PySem.W.fnOf "param_by" "param_by" (defArgs s_param_by) (defBody s_param_by) (defScope s_param_by) .none kV_param_by dc_param_by pm_param_by an_param_by cd_param_by ct_param_by), sl_param_by⟩)
    (zd_param_by : PySem.W.codeIn K cd_param_by "param_by" = true)
    (zk_param_by : PySem.W.keepIn K (.ref f_param_by) = true)
    (za_Head_init : PySem.W.findIn K (.ref a_Head) "__init__" = some (some (.ref f_Head_init)))
    (zi_Head_init : PySem.W.isFn K (.ref f_Head_init) = true)
    (zl_Head_init : K.lookup f_Head_init = some ⟨oc_Head_init, od_Head_init, .func (PySem.W.fnOf "__init__" "Head.__init__" (defArgs s_Head_init) (defBody s_Head_init) (defScope s_Head_init) .none kV_Head_init dc_Head_init pm_Head_init an_Head_init cd_Head_init ct_Head_init), sl_Head_init⟩)
    (zd_Head_init : PySem.W.codeIn K cd_Head_init "Head.__init__" = true)
    (zk_Head_init : PySem.W.keepIn K (.ref f_Head_init) = true)
    (za_head_by : PySem.W.nsIn K mainGlobals "head_by" = some (some (.ref f_head_by)))
    (zl_head_by : K.lookup f_head_by = some ⟨oc_head_by, od_head_by, .func (PySem.W.fnOf "head_by" "head_by" (defArgs s_head_by) (defBody s_head_by) (defScope s_head_by) .none kV_head_by dc_head_by pm_head_by an_head_by cd_head_by ct_head_by), sl_head_by⟩)
    (zd_head_by : PySem.W.codeIn K cd_head_by "head_by" = true)
    (zk_head_by : PySem.W.keepIn K (.ref f_head_by) = true)
    (za_Block_init : PySem.W.findIn K (.ref a_Block) "__init__" = some (some (.ref f_Block_init)))
    (zi_Block_init : PySem.W.isFn K (.ref f_Block_init) = true)
    (zl_Block_init : K.lookup f_Block_init = some ⟨oc_Block_init, od_Block_init, .func (PySem.W.fnOf "__init__" "Block.__init__" (defArgs s_Block_init) (defBody s_Block_init) (defScope s_Block_init) .none kV_Block_init dc_Block_init pm_Block_init an_Block_init cd_Block_init ct_Block_init), sl_Block_init⟩)
    (zd_Block_init : PySem.W.codeIn K cd_Block_init "Block.__init__" = true)
    (zk_Block_init : PySem.W.keepIn K (.ref f_Block_init) = true)
    (zm_Block_put : PySem.W.findIn K (.ref a_Block) "put" = some (some (.ref f_Block_put)))
    (zi_Block_put : PySem.W.isFn K (.ref f_Block_put) = true)
    (zl_Block_put : K.lookup f_Block_put = some ⟨oc_Block_put, od_Block_put, .func (PySem.W.fnOf "put" "Block.put" (defArgs s_Block_put) (defBody s_Block_put) (defScope s_Block_put) .none kV_Block_put dc_Block_put pm_Block_put an_Block_put cd_Block_put ct_Block_put), sl_Block_put⟩)
    (zd_Block_put : PySem.W.codeIn K cd_Block_put "Block.put" = true)
    (zk_Block_put : PySem.W.keepIn K (.ref f_Block_put) = true)
    (za_Reader_init : PySem.W.findIn K (.ref a_Reader) "__init__" = some (some (.ref f_Reader_init)))
    (zi_Reader_init : PySem.W.isFn K (.ref f_Reader_init) = true)
    (zl_Reader_init : K.lookup f_Reader_init = some ⟨oc_Reader_init, od_Reader_init, .func (PySem.W.fnOf "__init__" "Reader.__init__" (defArgs s_Reader_init) (defBody s_Reader_init) (defScope s_Reader_init) .none kV_Reader_init dc_Reader_init pm_Reader_init an_Reader_init cd_Reader_init ct_Reader_init), sl_Reader_init⟩)
    (zd_Reader_init : PySem.W.codeIn K cd_Reader_init "Reader.__init__" = true)
    (zk_Reader_init : PySem.W.keepIn K (.ref f_Reader_init) = true)
    (zm_Reader_opened : PySem.W.findIn K (.ref a_Reader) "opened" = some (some (.ref f_Reader_opened)))
    (zi_Reader_opened : PySem.W.isFn K (.ref f_Reader_opened) = true)
    (zl_Reader_opened : K.lookup f_Reader_opened = some ⟨oc_Reader_opened, od_Reader_opened, .func (PySem.W.fnOf "opened" "Reader.opened" (defArgs s_Reader_opened) (defBody s_Reader_opened) (defScope s_Reader_opened) .none kV_Reader_opened dc_Reader_opened pm_Reader_opened an_Reader_opened cd_Reader_opened ct_Reader_opened), sl_Reader_opened⟩)
    (zd_Reader_opened : PySem.W.codeIn K cd_Reader_opened "Reader.opened" = true)
    (zk_Reader_opened : PySem.W.keepIn K (.ref f_Reader_opened) = true)
    (zm_Reader_turned : PySem.W.findIn K (.ref a_Reader) "turned" = some (some (.ref f_Reader_turned)))
    (zi_Reader_turned : PySem.W.isFn K (.ref f_Reader_turned) = true)
    (zl_Reader_turned : K.lookup f_Reader_turned = some ⟨oc_Reader_turned, od_Reader_turned, .func (PySem.W.fnOf "turned" "Reader.turned" (defArgs s_Reader_turned) (defBody s_Reader_turned) (defScope s_Reader_turned) .none kV_Reader_turned dc_Reader_turned pm_Reader_turned an_Reader_turned cd_Reader_turned ct_Reader_turned), sl_Reader_turned⟩)
    (zd_Reader_turned : PySem.W.codeIn K cd_Reader_turned "Reader.turned" = true)
    (zk_Reader_turned : PySem.W.keepIn K (.ref f_Reader_turned) = true)
    (zm_Reader_shut : PySem.W.findIn K (.ref a_Reader) "shut" = some (some (.ref f_Reader_shut)))
    (zi_Reader_shut : PySem.W.isFn K (.ref f_Reader_shut) = true)
    (zl_Reader_shut : K.lookup f_Reader_shut = some ⟨oc_Reader_shut, od_Reader_shut, .func (PySem.W.fnOf "shut" "Reader.shut" (defArgs s_Reader_shut) (defBody s_Reader_shut) (defScope s_Reader_shut) .none kV_Reader_shut dc_Reader_shut pm_Reader_shut an_Reader_shut cd_Reader_shut ct_Reader_shut), sl_Reader_shut⟩)
    (zd_Reader_shut : PySem.W.codeIn K cd_Reader_shut "Reader.shut" = true)
    (zk_Reader_shut : PySem.W.keepIn K (.ref f_Reader_shut) = true)
    (zm_Reader_finished : PySem.W.findIn K (.ref a_Reader) "finished" = some (some (.ref f_Reader_finished)))
    (zi_Reader_finished : PySem.W.isFn K (.ref f_Reader_finished) = true)
    (zl_Reader_finished : K.lookup f_Reader_finished = some ⟨oc_Reader_finished, od_Reader_finished, .func (PySem.W.fnOf "finished" "Reader.finished" (defArgs s_Reader_finished) (defBody s_Reader_finished) (defScope s_Reader_finished) .none kV_Reader_finished dc_Reader_finished pm_Reader_finished an_Reader_finished cd_Reader_finished ct_Reader_finished), sl_Reader_finished⟩)
    (zd_Reader_finished : PySem.W.codeIn K cd_Reader_finished "Reader.finished" = true)
    (zk_Reader_finished : PySem.W.keepIn K (.ref f_Reader_finished) = true)
    (zm_Reader_within : PySem.W.findIn K (.ref a_Reader) "within" = some (some (.ref f_Reader_within)))
    (zi_Reader_within : PySem.W.isFn K (.ref f_Reader_within) = true)
    (zl_Reader_within : K.lookup f_Reader_within = some ⟨oc_Reader_within, od_Reader_within, .func (PySem.W.fnOf "within" "Reader.within" (defArgs s_Reader_within) (defBody s_Reader_within) (defScope s_Reader_within) .none kV_Reader_within dc_Reader_within pm_Reader_within an_Reader_within cd_Reader_within ct_Reader_within), sl_Reader_within⟩)
    (zd_Reader_within : PySem.W.codeIn K cd_Reader_within "Reader.within" = true)
    (zk_Reader_within : PySem.W.keepIn K (.ref f_Reader_within) = true)
    (zm_Reader_without : PySem.W.findIn K (.ref a_Reader) "without" = some (some (.ref f_Reader_without)))
    (zi_Reader_without : PySem.W.isFn K (.ref f_Reader_without) = true)
    (zl_Reader_without : K.lookup f_Reader_without = some ⟨oc_Reader_without, od_Reader_without, .func (PySem.W.fnOf "without" "Reader.without" (defArgs s_Reader_without) (defBody s_Reader_without) (defScope s_Reader_without) .none kV_Reader_without dc_Reader_without pm_Reader_without an_Reader_without cd_Reader_without ct_Reader_without), sl_Reader_without⟩)
    (zd_Reader_without : PySem.W.codeIn K cd_Reader_without "Reader.without" = true)
    (zk_Reader_without : PySem.W.keepIn K (.ref f_Reader_without) = true)
    (zm_Reader_good : PySem.W.findIn K (.ref a_Reader) "good" = some (some (.ref f_Reader_good)))
    (zi_Reader_good : PySem.W.isFn K (.ref f_Reader_good) = true)
    (zl_Reader_good : K.lookup f_Reader_good = some ⟨oc_Reader_good, od_Reader_good, .func (PySem.W.fnOf "good" "Reader.good" (defArgs s_Reader_good) (defBody s_Reader_good) (defScope s_Reader_good) .none kV_Reader_good dc_Reader_good pm_Reader_good an_Reader_good cd_Reader_good ct_Reader_good), sl_Reader_good⟩)
    (zd_Reader_good : PySem.W.codeIn K cd_Reader_good "Reader.good" = true)
    (zk_Reader_good : PySem.W.keepIn K (.ref f_Reader_good) = true)
    (za_read : PySem.W.nsIn K mainGlobals "read" = some (some (.ref f_read)))
    (zl_read : K.lookup f_read = some ⟨oc_read, od_read, .func (PySem.W.fnOf "read" "read" (defArgs s_read) (defBody s_read) (defScope s_read) .none kV_read dc_read pm_read an_read cd_read ct_read), sl_read⟩)
    (zd_read : PySem.W.codeIn K cd_read "read" = true)
    (zk_read : PySem.W.keepIn K (.ref f_read) = true)
    (zm_SetRow_inner : PySem.W.findIn K (.ref a_SetRow) "inner" = some (some (.ref f_Row_inner)))
    (zm_MakeRow_inner : PySem.W.findIn K (.ref a_MakeRow) "inner" = some (some (.ref f_Row_inner)))
    (zm_NoneRow_inner : PySem.W.findIn K (.ref a_NoneRow) "inner" = some (some (.ref f_Row_inner)))
    (zm_GiveRow_inner : PySem.W.findIn K (.ref a_GiveRow) "inner" = some (some (.ref f_Row_inner)))
    (zm_TakeRow_inner : PySem.W.findIn K (.ref a_TakeRow) "inner" = some (some (.ref f_Row_inner)))
    (zm_FillRow_inner : PySem.W.findIn K (.ref a_FillRow) "inner" = some (some (.ref f_Row_inner)))
    (zm_SwapRow_inner : PySem.W.findIn K (.ref a_SwapRow) "inner" = some (some (.ref f_Row_inner)))
    (zm_GetRow_inner : PySem.W.findIn K (.ref a_GetRow) "inner" = some (some (.ref f_Row_inner)))
    (zm_PutRow_inner : PySem.W.findIn K (.ref a_PutRow) "inner" = some (some (.ref f_Row_inner)))
    (zm_HasRow_inner : PySem.W.findIn K (.ref a_HasRow) "inner" = some (some (.ref f_Row_inner)))
    (zm_DropRow_inner : PySem.W.findIn K (.ref a_DropRow) "inner" = some (some (.ref f_Row_inner)))
    (zm_LendRow_inner : PySem.W.findIn K (.ref a_LendRow) "inner" = some (some (.ref f_Row_inner)))
    (zm_StepRow_inner : PySem.W.findIn K (.ref a_StepRow) "inner" = some (some (.ref f_Row_inner)))
    (zm_CallRow_inner : PySem.W.findIn K (.ref a_CallRow) "inner" = some (some (.ref f_Row_inner)))
    (zm_BackRow_inner : PySem.W.findIn K (.ref a_BackRow) "inner" = some (some (.ref f_Row_inner)))
    (zm_AskRow_inner : PySem.W.findIn K (.ref a_AskRow) "inner" = some (some (.ref f_Row_inner)))
    (zm_TellRow_inner : PySem.W.findIn K (.ref a_TellRow) "inner" = some (some (.ref f_Row_inner)))
    (zi_Row_inner : PySem.W.isFn K (.ref f_Row_inner) = true)
    (zl_Row_inner : K.lookup f_Row_inner = some ⟨oc_Row_inner, od_Row_inner, .func (PySem.W.fnOf "inner" "Row.inner" (defArgs s_Row_inner) (defBody s_Row_inner) (defScope s_Row_inner) .none kV_Row_inner dc_Row_inner pm_Row_inner an_Row_inner cd_Row_inner ct_Row_inner), sl_Row_inner⟩)
    (zd_Row_inner : PySem.W.codeIn K cd_Row_inner "Row.inner" = true)
    (zk_Row_inner : PySem.W.keepIn K (.ref f_Row_inner) = true)
    (zm_IfRow_inner : PySem.W.findIn K (.ref a_IfRow) "inner" = some (some (.ref f_IfRow_inner)))
    (zi_IfRow_inner : PySem.W.isFn K (.ref f_IfRow_inner) = true)
    (zl_IfRow_inner : K.lookup f_IfRow_inner = some ⟨oc_IfRow_inner, od_IfRow_inner, .func (PySem.W.fnOf "inner" "IfRow.inner" (defArgs s_IfRow_inner) (defBody s_IfRow_inner) (defScope s_IfRow_inner) .none kV_IfRow_inner dc_IfRow_inner pm_IfRow_inner an_IfRow_inner cd_IfRow_inner ct_IfRow_inner), sl_IfRow_inner⟩)
    (zd_IfRow_inner : PySem.W.codeIn K cd_IfRow_inner "IfRow.inner" = true)
    (zk_IfRow_inner : PySem.W.keepIn K (.ref f_IfRow_inner) = true)
    (zm_WhileRow_inner : PySem.W.findIn K (.ref a_WhileRow) "inner" = some (some (.ref f_WhileRow_inner)))
    (zi_WhileRow_inner : PySem.W.isFn K (.ref f_WhileRow_inner) = true)
    (zl_WhileRow_inner : K.lookup f_WhileRow_inner = some ⟨oc_WhileRow_inner, od_WhileRow_inner, .func (PySem.W.fnOf "inner" "WhileRow.inner" (defArgs s_WhileRow_inner) (defBody s_WhileRow_inner) (defScope s_WhileRow_inner) .none kV_WhileRow_inner dc_WhileRow_inner pm_WhileRow_inner an_WhileRow_inner cd_WhileRow_inner ct_WhileRow_inner), sl_WhileRow_inner⟩)
    (zd_WhileRow_inner : PySem.W.codeIn K cd_WhileRow_inner "WhileRow.inner" = true)
    (zk_WhileRow_inner : PySem.W.keepIn K (.ref f_WhileRow_inner) = true)
    (za_l_draw : PySem.W.nsIn K mainGlobals "_law_draw" = some (some (.ref f_l_draw)))
    (zl_l_draw : K.lookup f_l_draw = some ⟨oc_l_draw, od_l_draw, .func (PySem.W.fnOf "_law_draw" "_law_draw" (defArgs s_l_draw) (defBody s_l_draw) (defScope s_l_draw) .none kV_l_draw dc_l_draw pm_l_draw an_l_draw cd_l_draw ct_l_draw), sl_l_draw⟩)
    (zd_l_draw : PySem.W.codeIn K cd_l_draw "_law_draw" = true)
    (zk_l_draw : PySem.W.keepIn K (.ref f_l_draw) = true)
    (za_l_rows_by : PySem.W.nsIn K mainGlobals "_law_rows_by" = some (some (.ref f_l_rows_by)))
    (zl_l_rows_by : K.lookup f_l_rows_by = some ⟨oc_l_rows_by, od_l_rows_by, .func (PySem.W.fnOf "_law_rows_by" "_law_rows_by" (defArgs s_l_rows_by) (defBody s_l_rows_by) (defScope s_l_rows_by) .none kV_l_rows_by dc_l_rows_by pm_l_rows_by an_l_rows_by cd_l_rows_by ct_l_rows_by), sl_l_rows_by⟩)
    (zd_l_rows_by : PySem.W.codeIn K cd_l_rows_by "_law_rows_by" = true)
    (zk_l_rows_by : PySem.W.keepIn K (.ref f_l_rows_by) = true)
    (za_l_last_row : PySem.W.nsIn K mainGlobals "_law_last_row" = some (some (.ref f_l_last_row)))
    (zl_l_last_row : K.lookup f_l_last_row = some ⟨oc_l_last_row, od_l_last_row, .func (PySem.W.fnOf "_law_last_row" "_law_last_row" (defArgs s_l_last_row) (defBody s_l_last_row) (defScope s_l_last_row) .none kV_l_last_row dc_l_last_row pm_l_last_row an_l_last_row cd_l_last_row ct_l_last_row), sl_l_last_row⟩)
    (zd_l_last_row : PySem.W.codeIn K cd_l_last_row "_law_last_row" = true)
    (zk_l_last_row : PySem.W.keepIn K (.ref f_l_last_row) = true)
    (za_l_built : PySem.W.nsIn K mainGlobals "_law_built" = some (some (.ref f_l_built)))
    (zl_l_built : K.lookup f_l_built = some ⟨oc_l_built, od_l_built, .func (PySem.W.fnOf "_law_built" "_law_built" (defArgs s_l_built) (defBody s_l_built) (defScope s_l_built) .none kV_l_built dc_l_built pm_l_built an_l_built cd_l_built ct_l_built), sl_l_built⟩)
    (zd_l_built : PySem.W.codeIn K cd_l_built "_law_built" = true)
    (zk_l_built : PySem.W.keepIn K (.ref f_l_built) = true)
    (za_l_counts : PySem.W.nsIn K mainGlobals "_law_counts" = some (some (.ref f_l_counts)))
    (zl_l_counts : K.lookup f_l_counts = some ⟨oc_l_counts, od_l_counts, .func (PySem.W.fnOf "_law_counts" "_law_counts" (defArgs s_l_counts) (defBody s_l_counts) (defScope s_l_counts) .none kV_l_counts dc_l_counts pm_l_counts an_l_counts cd_l_counts ct_l_counts), sl_l_counts⟩)
    (zd_l_counts : PySem.W.codeIn K cd_l_counts "_law_counts" = true)
    (zk_l_counts : PySem.W.keepIn K (.ref f_l_counts) = true)
    (za_law : PySem.W.nsIn K mainGlobals "law" = some (some (.ref f_law)))
    (zl_law : K.lookup f_law = some ⟨oc_law, od_law, .func (PySem.W.fnOf "law" "law" (defArgs s_law) (defBody s_law) (defScope s_law) .none kV_law dc_law pm_law an_law cd_law ct_law), sl_law⟩)
    (zd_law : PySem.W.codeIn K cd_law "law" = true)
    (zk_law : PySem.W.keepIn K (.ref f_law) = true)
    : ∃ fd : FuncData, (∀ (s : Shared) (v : Value), BindsTo s fd ⟨[v], []⟩ [("_law_script", v)]) ∧ ∀ base : Heap, K.In base → base.Ns mainGlobals mg → FnOk l.prog w K mg base CX0 24 fa fd ["_law_script"] (spLaw K) := by
  have e := hfa.symm.trans (PySem.W.mg_of X G za_law)
  cases e
  have F_NoText_init := fun_mk (st := s_NoText_init) zl_NoText_init zd_NoText_init zk_NoText_init
  have B_NoText_init := F_NoText_init.binds (ps := ["self", "where"]) fun _ _ _ _ _ _ us hl => match us, hl with | [_, _], _ => rfl
  have F_shown := fun_mk (st := s_shown) zl_shown zd_shown zk_shown
  have B_shown := F_shown.binds (ps := ["thing"]) fun _ _ _ _ _ _ us hl => match us, hl with | [_], _ => rfl
  have F_Row_head := fun_mk (st := s_Row_head) zl_Row_head zd_Row_head zk_Row_head
  have B_Row_head := F_Row_head.binds (ps := ["self"]) fun _ _ _ _ _ _ us hl => match us, hl with | [_], _ => rfl
  have F_SetRow_init := fun_mk (st := s_SetRow_init) zl_SetRow_init zd_SetRow_init zk_SetRow_init
  have B_SetRow_init := F_SetRow_init.binds (ps := ["self", "name", "one", "sign", "other"]) fun _ _ _ _ _ _ us hl => match us, hl with | [_, _, _, _, _], _ => rfl
  have F_SetRow_told := fun_mk (st := s_SetRow_told) zl_SetRow_told zd_SetRow_told zk_SetRow_told
  have B_SetRow_told := F_SetRow_told.binds (ps := ["self"]) fun _ _ _ _ _ _ us hl => match us, hl with | [_], _ => rfl
  have F_MakeRow_init := fun_mk (st := s_MakeRow_init) zl_MakeRow_init zd_MakeRow_init zk_MakeRow_init
  have B_MakeRow_init := F_MakeRow_init.binds (ps := ["self", "name", "record", "atoms"]) fun _ _ _ _ _ _ us hl => match us, hl with | [_, _, _, _], _ => rfl
  have F_MakeRow_told := fun_mk (st := s_MakeRow_told) zl_MakeRow_told zd_MakeRow_told zk_MakeRow_told
  have B_MakeRow_told := F_MakeRow_told.binds (ps := ["self"]) fun _ _ _ _ _ _ us hl => match us, hl with | [_], _ => rfl
  have F_NoneRow_init := fun_mk (st := s_NoneRow_init) zl_NoneRow_init zd_NoneRow_init zk_NoneRow_init
  have B_NoneRow_init := F_NoneRow_init.binds (ps := ["self", "name", "record"]) fun _ _ _ _ _ _ us hl => match us, hl with | [_, _, _], _ => rfl
  have F_NoneRow_told := fun_mk (st := s_NoneRow_told) zl_NoneRow_told zd_NoneRow_told zk_NoneRow_told
  have B_NoneRow_told := F_NoneRow_told.binds (ps := ["self"]) fun _ _ _ _ _ _ us hl => match us, hl with | [_], _ => rfl
  have F_GiveRow_init := fun_mk (st := s_GiveRow_init) zl_GiveRow_init zd_GiveRow_init zk_GiveRow_init
  have B_GiveRow_init := F_GiveRow_init.binds (ps := ["self", "name", "other"]) fun _ _ _ _ _ _ us hl => match us, hl with | [_, _, _], _ => rfl
  have F_GiveRow_told := fun_mk (st := s_GiveRow_told) zl_GiveRow_told zd_GiveRow_told zk_GiveRow_told
  have B_GiveRow_told := F_GiveRow_told.binds (ps := ["self"]) fun _ _ _ _ _ _ us hl => match us, hl with | [_], _ => rfl
  have F_TakeRow_init := fun_mk (st := s_TakeRow_init) zl_TakeRow_init zd_TakeRow_init zk_TakeRow_init
  have B_TakeRow_init := F_TakeRow_init.binds (ps := ["self", "name", "path"]) fun _ _ _ _ _ _ us hl => match us, hl with | [_, _, _], _ => rfl
  have F_TakeRow_told := fun_mk (st := s_TakeRow_told) zl_TakeRow_told zd_TakeRow_told zk_TakeRow_told
  have B_TakeRow_told := F_TakeRow_told.binds (ps := ["self"]) fun _ _ _ _ _ _ us hl => match us, hl with | [_], _ => rfl
  have F_FillRow_init := fun_mk (st := s_FillRow_init) zl_FillRow_init zd_FillRow_init zk_FillRow_init
  have B_FillRow_init := F_FillRow_init.binds (ps := ["self", "path", "name"]) fun _ _ _ _ _ _ us hl => match us, hl with | [_, _, _], _ => rfl
  have F_FillRow_told := fun_mk (st := s_FillRow_told) zl_FillRow_told zd_FillRow_told zk_FillRow_told
  have B_FillRow_told := F_FillRow_told.binds (ps := ["self"]) fun _ _ _ _ _ _ us hl => match us, hl with | [_], _ => rfl
  have F_SwapRow_init := fun_mk (st := s_SwapRow_init) zl_SwapRow_init zd_SwapRow_init zk_SwapRow_init
  have B_SwapRow_init := F_SwapRow_init.binds (ps := ["self", "name", "path"]) fun _ _ _ _ _ _ us hl => match us, hl with | [_, _, _], _ => rfl
  have F_SwapRow_told := fun_mk (st := s_SwapRow_told) zl_SwapRow_told zd_SwapRow_told zk_SwapRow_told
  have B_SwapRow_told := F_SwapRow_told.binds (ps := ["self"]) fun _ _ _ _ _ _ us hl => match us, hl with | [_], _ => rfl
  have F_GetRow_init := fun_mk (st := s_GetRow_init) zl_GetRow_init zd_GetRow_init zk_GetRow_init
  have B_GetRow_init := F_GetRow_init.binds (ps := ["self", "name", "path"]) fun _ _ _ _ _ _ us hl => match us, hl with | [_, _, _], _ => rfl
  have F_GetRow_told := fun_mk (st := s_GetRow_told) zl_GetRow_told zd_GetRow_told zk_GetRow_told
  have B_GetRow_told := F_GetRow_told.binds (ps := ["self"]) fun _ _ _ _ _ _ us hl => match us, hl with | [_], _ => rfl
  have F_PutRow_init := fun_mk (st := s_PutRow_init) zl_PutRow_init zd_PutRow_init zk_PutRow_init
  have B_PutRow_init := F_PutRow_init.binds (ps := ["self", "path", "atom"]) fun _ _ _ _ _ _ us hl => match us, hl with | [_, _, _], _ => rfl
  have F_PutRow_told := fun_mk (st := s_PutRow_told) zl_PutRow_told zd_PutRow_told zk_PutRow_told
  have B_PutRow_told := F_PutRow_told.binds (ps := ["self"]) fun _ _ _ _ _ _ us hl => match us, hl with | [_], _ => rfl
  have F_HasRow_init := fun_mk (st := s_HasRow_init) zl_HasRow_init zd_HasRow_init zk_HasRow_init
  have B_HasRow_init := F_HasRow_init.binds (ps := ["self", "name", "path"]) fun _ _ _ _ _ _ us hl => match us, hl with | [_, _, _], _ => rfl
  have F_HasRow_told := fun_mk (st := s_HasRow_told) zl_HasRow_told zd_HasRow_told zk_HasRow_told
  have B_HasRow_told := F_HasRow_told.binds (ps := ["self"]) fun _ _ _ _ _ _ us hl => match us, hl with | [_], _ => rfl
  have F_DropRow_init := fun_mk (st := s_DropRow_init) zl_DropRow_init zd_DropRow_init zk_DropRow_init
  have B_DropRow_init := F_DropRow_init.binds (ps := ["self", "name"]) fun _ _ _ _ _ _ us hl => match us, hl with | [_, _], _ => rfl
  have F_DropRow_told := fun_mk (st := s_DropRow_told) zl_DropRow_told zd_DropRow_told zk_DropRow_told
  have B_DropRow_told := F_DropRow_told.binds (ps := ["self"]) fun _ _ _ _ _ _ us hl => match us, hl with | [_], _ => rfl
  have F_LendRow_init := fun_mk (st := s_LendRow_init) zl_LendRow_init zd_LendRow_init zk_LendRow_init
  have B_LendRow_init := F_LendRow_init.binds (ps := ["self", "mode", "name", "path"]) fun _ _ _ _ _ _ us hl => match us, hl with | [_, _, _, _], _ => rfl
  have F_LendRow_told := fun_mk (st := s_LendRow_told) zl_LendRow_told zd_LendRow_told zk_LendRow_told
  have B_LendRow_told := F_LendRow_told.binds (ps := ["self"]) fun _ _ _ _ _ _ us hl => match us, hl with | [_], _ => rfl
  have F_StepRow_init := fun_mk (st := s_StepRow_init) zl_StepRow_init zd_StepRow_init zk_StepRow_init
  have B_StepRow_init := F_StepRow_init.binds (ps := ["self", "name", "field"]) fun _ _ _ _ _ _ us hl => match us, hl with | [_, _, _], _ => rfl
  have F_StepRow_told := fun_mk (st := s_StepRow_told) zl_StepRow_told zd_StepRow_told zk_StepRow_told
  have B_StepRow_told := F_StepRow_told.binds (ps := ["self"]) fun _ _ _ _ _ _ us hl => match us, hl with | [_], _ => rfl
  have F_CallRow_init := fun_mk (st := s_CallRow_init) zl_CallRow_init zd_CallRow_init zk_CallRow_init
  have B_CallRow_init := F_CallRow_init.binds (ps := ["self", "name", "helper", "given"]) fun _ _ _ _ _ _ us hl => match us, hl with | [_, _, _, _], _ => rfl
  have F_CallRow_told := fun_mk (st := s_CallRow_told) zl_CallRow_told zd_CallRow_told zk_CallRow_told
  have B_CallRow_told := F_CallRow_told.binds (ps := ["self"]) fun _ _ _ _ _ _ us hl => match us, hl with | [_], _ => rfl
  have F_BackRow_init := fun_mk (st := s_BackRow_init) zl_BackRow_init zd_BackRow_init zk_BackRow_init
  have B_BackRow_init := F_BackRow_init.binds (ps := ["self", "atom"]) fun _ _ _ _ _ _ us hl => match us, hl with | [_, _], _ => rfl
  have F_BackRow_told := fun_mk (st := s_BackRow_told) zl_BackRow_told zd_BackRow_told zk_BackRow_told
  have B_BackRow_told := F_BackRow_told.binds (ps := ["self"]) fun _ _ _ _ _ _ us hl => match us, hl with | [_], _ => rfl
  have F_AskRow_init := fun_mk (st := s_AskRow_init) zl_AskRow_init zd_AskRow_init zk_AskRow_init
  have B_AskRow_init := F_AskRow_init.binds (ps := ["self", "name"]) fun _ _ _ _ _ _ us hl => match us, hl with | [_, _], _ => rfl
  have F_AskRow_told := fun_mk (st := s_AskRow_told) zl_AskRow_told zd_AskRow_told zk_AskRow_told
  have B_AskRow_told := F_AskRow_told.binds (ps := ["self"]) fun _ _ _ _ _ _ us hl => match us, hl with | [_], _ => rfl
  have F_TellRow_init := fun_mk (st := s_TellRow_init) zl_TellRow_init zd_TellRow_init zk_TellRow_init
  have B_TellRow_init := F_TellRow_init.binds (ps := ["self", "atom"]) fun _ _ _ _ _ _ us hl => match us, hl with | [_, _], _ => rfl
  have F_TellRow_told := fun_mk (st := s_TellRow_told) zl_TellRow_told zd_TellRow_told zk_TellRow_told
  have B_TellRow_told := F_TellRow_told.binds (ps := ["self"]) fun _ _ _ _ _ _ us hl => match us, hl with | [_], _ => rfl
  have F_IfRow_init := fun_mk (st := s_IfRow_init) zl_IfRow_init zd_IfRow_init zk_IfRow_init
  have B_IfRow_init := F_IfRow_init.binds (ps := ["self", "atom", "rows", "others"]) fun _ _ _ _ _ _ us hl => match us, hl with | [_, _, _, _], _ => rfl
  have F_IfRow_told := fun_mk (st := s_IfRow_told) zl_IfRow_told zd_IfRow_told zk_IfRow_told
  have B_IfRow_told := F_IfRow_told.binds (ps := ["self"]) fun _ _ _ _ _ _ us hl => match us, hl with | [_], _ => rfl
  have F_WhileRow_init := fun_mk (st := s_WhileRow_init) zl_WhileRow_init zd_WhileRow_init zk_WhileRow_init
  have B_WhileRow_init := F_WhileRow_init.binds (ps := ["self", "atom", "rows"]) fun _ _ _ _ _ _ us hl => match us, hl with | [_, _, _], _ => rfl
  have F_WhileRow_told := fun_mk (st := s_WhileRow_told) zl_WhileRow_told zd_WhileRow_told zk_WhileRow_told
  have B_WhileRow_told := F_WhileRow_told.binds (ps := ["self"]) fun _ _ _ _ _ _ us hl => match us, hl with | [_], _ => rfl
  have F_Record_init := fun_mk (st := s_Record_init) zl_Record_init zd_Record_init zk_Record_init
  have B_Record_init := F_Record_init.binds (ps := ["self", "name", "fields"]) fun _ _ _ _ _ _ us hl => match us, hl with | [_, _, _], _ => rfl
  have F_Record_told := fun_mk (st := s_Record_told) zl_Record_told zd_Record_told zk_Record_told
  have B_Record_told := F_Record_told.binds (ps := ["self"]) fun _ _ _ _ _ _ us hl => match us, hl with | [_], _ => rfl
  have F_Helper_init := fun_mk (st := s_Helper_init) zl_Helper_init zd_Helper_init zk_Helper_init
  have B_Helper_init := F_Helper_init.binds (ps := ["self", "name", "params", "gives", "rows"]) fun _ _ _ _ _ _ us hl => match us, hl with | [_, _, _, _, _], _ => rfl
  have F_Helper_told := fun_mk (st := s_Helper_told) zl_Helper_told zd_Helper_told zk_Helper_told
  have B_Helper_told := F_Helper_told.binds (ps := ["self"]) fun _ _ _ _ _ _ us hl => match us, hl with | [_], _ => rfl
  have F_Program_init := fun_mk (st := s_Program_init) zl_Program_init zd_Program_init zk_Program_init
  have B_Program_init := F_Program_init.binds (ps := ["self", "records", "helpers"]) fun _ _ _ _ _ _ us hl => match us, hl with | [_, _, _], _ => rfl
  have F_Program_told := fun_mk (st := s_Program_told) zl_Program_told zd_Program_told zk_Program_told
  have B_Program_told := F_Program_told.binds (ps := ["self"]) fun _ _ _ _ _ _ us hl => match us, hl with | [_], _ => rfl
  have F_SetRow_head := fun_mk (st := s_SetRow_head) zl_SetRow_head zd_SetRow_head zk_SetRow_head
  have B_SetRow_head := F_SetRow_head.binds (ps := ["self"]) fun _ _ _ _ _ _ us hl => match us, hl with | [_], _ => rfl
  have F_MakeRow_head := fun_mk (st := s_MakeRow_head) zl_MakeRow_head zd_MakeRow_head zk_MakeRow_head
  have B_MakeRow_head := F_MakeRow_head.binds (ps := ["self"]) fun _ _ _ _ _ _ us hl => match us, hl with | [_], _ => rfl
  have F_HasRow_head := fun_mk (st := s_HasRow_head) zl_HasRow_head zd_HasRow_head zk_HasRow_head
  have B_HasRow_head := F_HasRow_head.binds (ps := ["self"]) fun _ _ _ _ _ _ us hl => match us, hl with | [_], _ => rfl
  have F_CallRow_head := fun_mk (st := s_CallRow_head) zl_CallRow_head zd_CallRow_head zk_CallRow_head
  have B_CallRow_head := F_CallRow_head.binds (ps := ["self"]) fun _ _ _ _ _ _ us hl => match us, hl with | [_], _ => rfl
  have F_IfRow_head := fun_mk (st := s_IfRow_head) zl_IfRow_head zd_IfRow_head zk_IfRow_head
  have B_IfRow_head := F_IfRow_head.binds (ps := ["self"]) fun _ _ _ _ _ _ us hl => match us, hl with | [_], _ => rfl
  have F_WhileRow_head := fun_mk (st := s_WhileRow_head) zl_WhileRow_head zd_WhileRow_head zk_WhileRow_head
  have B_WhileRow_head := F_WhileRow_head.binds (ps := ["self"]) fun _ _ _ _ _ _ us hl => match us, hl with | [_], _ => rfl
  have F_all_told := fun_mk (st := s_all_told) zl_all_told zd_all_told zk_all_told
  have B_all_told := F_all_told.binds (ps := ["rows"]) fun _ _ _ _ _ _ us hl => match us, hl with | [_], _ => rfl
  have F_is_name := fun_mk (st := s_is_name) zl_is_name zd_is_name zk_is_name
  have B_is_name := F_is_name.binds (ps := ["word"]) fun _ _ _ _ _ _ us hl => match us, hl with | [_], _ => rfl
  have F_is_kind := fun_mk (st := s_is_kind) zl_is_kind zd_is_kind zk_is_kind
  have B_is_kind := F_is_kind.binds (ps := ["word"]) fun _ _ _ _ _ _ us hl => match us, hl with | [_], _ => rfl
  have F_number_of := fun_mk (st := s_number_of) zl_number_of zd_number_of zk_number_of
  have B_number_of := F_number_of.binds (ps := ["word"]) fun _ _ _ _ _ _ us hl => match us, hl with | [_], _ => rfl
  have F_atom_of := fun_mk (st := s_atom_of) zl_atom_of zd_atom_of zk_atom_of
  have B_atom_of := F_atom_of.binds (ps := ["word"]) fun _ _ _ _ _ _ us hl => match us, hl with | [_], _ => rfl
  have F_path_of := fun_mk (st := s_path_of) zl_path_of zd_path_of zk_path_of
  have B_path_of := F_path_of.binds (ps := ["word"]) fun _ _ _ _ _ _ us hl => match us, hl with | [_], _ => rfl
  have F_given_of := fun_mk (st := s_given_of) zl_given_of zd_given_of zk_given_of
  have B_given_of := F_given_of.binds (ps := ["word"]) fun _ _ _ _ _ _ us hl => match us, hl with | [_], _ => rfl
  have F_set_of := fun_mk (st := s_set_of) zl_set_of zd_set_of zk_set_of
  have B_set_of := F_set_of.binds (ps := ["words"]) fun _ _ _ _ _ _ us hl => match us, hl with | [_], _ => rfl
  have F_make_of := fun_mk (st := s_make_of) zl_make_of zd_make_of zk_make_of
  have B_make_of := F_make_of.binds (ps := ["words"]) fun _ _ _ _ _ _ us hl => match us, hl with | [_], _ => rfl
  have F_call_of := fun_mk (st := s_call_of) zl_call_of zd_call_of zk_call_of
  have B_call_of := F_call_of.binds (ps := ["words"]) fun _ _ _ _ _ _ us hl => match us, hl with | [_], _ => rfl
  have F_path_row_of := fun_mk (st := s_path_row_of) zl_path_row_of zd_path_row_of zk_path_row_of
  have B_path_row_of := F_path_row_of.binds (ps := ["words"]) fun _ _ _ _ _ _ us hl => match us, hl with | [_], _ => rfl
  have F_pair_row_of := fun_mk (st := s_pair_row_of) zl_pair_row_of zd_pair_row_of zk_pair_row_of
  have B_pair_row_of := F_pair_row_of.binds (ps := ["words"]) fun _ _ _ _ _ _ us hl => match us, hl with | [_], _ => rfl
  have F_into_row_of := fun_mk (st := s_into_row_of) zl_into_row_of zd_into_row_of zk_into_row_of
  have B_into_row_of := F_into_row_of.binds (ps := ["words"]) fun _ _ _ _ _ _ us hl => match us, hl with | [_], _ => rfl
  have F_single_row_of := fun_mk (st := s_single_row_of) zl_single_row_of zd_single_row_of zk_single_row_of
  have B_single_row_of := F_single_row_of.binds (ps := ["words"]) fun _ _ _ _ _ _ us hl => match us, hl with | [_], _ => rfl
  have F_row_by := fun_mk (st := s_row_by) zl_row_by zd_row_by zk_row_by
  have B_row_by := F_row_by.binds (ps := ["words"]) fun _ _ _ _ _ _ us hl => match us, hl with | [_], _ => rfl
  have F_record_by := fun_mk (st := s_record_by) zl_record_by zd_record_by zk_record_by
  have B_record_by := F_record_by.binds (ps := ["words"]) fun _ _ _ _ _ _ us hl => match us, hl with | [_], _ => rfl
  have F_param_by := fun_mk (st := s_param_by) zl_param_by zd_param_by zk_param_by
  have B_param_by := F_param_by.binds (ps := ["words"]) fun _ _ _ _ _ _ us hl => match us, hl with | [_], _ => rfl
  have F_Head_init := fun_mk (st := s_Head_init) zl_Head_init zd_Head_init zk_Head_init
  have B_Head_init := F_Head_init.binds (ps := ["self", "name", "params", "gives"]) fun _ _ _ _ _ _ us hl => match us, hl with | [_, _, _, _], _ => rfl
  have F_head_by := fun_mk (st := s_head_by) zl_head_by zd_head_by zk_head_by
  have B_head_by := F_head_by.binds (ps := ["words"]) fun _ _ _ _ _ _ us hl => match us, hl with | [_], _ => rfl
  have F_Block_init := fun_mk (st := s_Block_init) zl_Block_init zd_Block_init zk_Block_init
  have B_Block_init := F_Block_init.binds (ps := ["self", "word", "atom"]) fun _ _ _ _ _ _ us hl => match us, hl with | [_, _, _], _ => rfl
  have F_Block_put := fun_mk (st := s_Block_put) zl_Block_put zd_Block_put zk_Block_put
  have B_Block_put := F_Block_put.binds (ps := ["self", "row"]) fun _ _ _ _ _ _ us hl => match us, hl with | [_, _], _ => rfl
  have F_Reader_init := fun_mk (st := s_Reader_init) zl_Reader_init zd_Reader_init zk_Reader_init
  have B_Reader_init := F_Reader_init.binds (ps := ["self"]) fun _ _ _ _ _ _ us hl => match us, hl with | [_], _ => rfl
  have F_Reader_opened := fun_mk (st := s_Reader_opened) zl_Reader_opened zd_Reader_opened zk_Reader_opened
  have B_Reader_opened := F_Reader_opened.binds (ps := ["self", "words"]) fun _ _ _ _ _ _ us hl => match us, hl with | [_, _], _ => rfl
  have F_Reader_turned := fun_mk (st := s_Reader_turned) zl_Reader_turned zd_Reader_turned zk_Reader_turned
  have B_Reader_turned := F_Reader_turned.binds (ps := ["self"]) fun _ _ _ _ _ _ us hl => match us, hl with | [_], _ => rfl
  have F_Reader_shut := fun_mk (st := s_Reader_shut) zl_Reader_shut zd_Reader_shut zk_Reader_shut
  have B_Reader_shut := F_Reader_shut.binds (ps := ["self", "word"]) fun _ _ _ _ _ _ us hl => match us, hl with | [_, _], _ => rfl
  have F_Reader_finished := fun_mk (st := s_Reader_finished) zl_Reader_finished zd_Reader_finished zk_Reader_finished
  have B_Reader_finished := F_Reader_finished.binds (ps := ["self"]) fun _ _ _ _ _ _ us hl => match us, hl with | [_], _ => rfl
  have F_Reader_within := fun_mk (st := s_Reader_within) zl_Reader_within zd_Reader_within zk_Reader_within
  have B_Reader_within := F_Reader_within.binds (ps := ["self", "words"]) fun _ _ _ _ _ _ us hl => match us, hl with | [_, _], _ => rfl
  have F_Reader_without := fun_mk (st := s_Reader_without) zl_Reader_without zd_Reader_without zk_Reader_without
  have B_Reader_without := F_Reader_without.binds (ps := ["self", "words"]) fun _ _ _ _ _ _ us hl => match us, hl with | [_, _], _ => rfl
  have F_Reader_good := fun_mk (st := s_Reader_good) zl_Reader_good zd_Reader_good zk_Reader_good
  have B_Reader_good := F_Reader_good.binds (ps := ["self", "words"]) fun _ _ _ _ _ _ us hl => match us, hl with | [_, _], _ => rfl
  have F_read := fun_mk (st := s_read) zl_read zd_read zk_read
  have B_read := F_read.binds (ps := ["text"]) fun _ _ _ _ _ _ us hl => match us, hl with | [_], _ => rfl
  have F_Row_inner := fun_mk (st := s_Row_inner) zl_Row_inner zd_Row_inner zk_Row_inner
  have B_Row_inner := F_Row_inner.binds (ps := ["self"]) fun _ _ _ _ _ _ us hl => match us, hl with | [_], _ => rfl
  have F_IfRow_inner := fun_mk (st := s_IfRow_inner) zl_IfRow_inner zd_IfRow_inner zk_IfRow_inner
  have B_IfRow_inner := F_IfRow_inner.binds (ps := ["self"]) fun _ _ _ _ _ _ us hl => match us, hl with | [_], _ => rfl
  have F_WhileRow_inner := fun_mk (st := s_WhileRow_inner) zl_WhileRow_inner zd_WhileRow_inner zk_WhileRow_inner
  have B_WhileRow_inner := F_WhileRow_inner.binds (ps := ["self"]) fun _ _ _ _ _ _ us hl => match us, hl with | [_], _ => rfl
  have F_l_draw := fun_mk (st := s_l_draw) zl_l_draw zd_l_draw zk_l_draw
  have B_l_draw := F_l_draw.binds (ps := ["_law_script", "_law_tape", "_law_many"]) fun _ _ _ _ _ _ us hl => match us, hl with | [_, _, _], _ => rfl
  have F_l_rows_by := fun_mk (st := s_l_rows_by) zl_l_rows_by zd_l_rows_by zk_l_rows_by
  have B_l_rows_by := F_l_rows_by.binds (ps := ["_law_many", "_law_cell"]) fun _ _ _ _ _ _ us hl => match us, hl with | [_, _], _ => rfl
  have F_l_last_row := fun_mk (st := s_l_last_row) zl_l_last_row zd_l_last_row zk_l_last_row
  have B_l_last_row := F_l_last_row.binds (ps := ["_law_lines"]) fun _ _ _ _ _ _ us hl => match us, hl with | [_], _ => rfl
  have F_l_built := fun_mk (st := s_l_built) zl_l_built zd_l_built zk_l_built
  have B_l_built := F_l_built.binds (ps := ["_law_sort", "_law_more", "_law_cell"]) fun _ _ _ _ _ _ us hl => match us, hl with | [_, _, _], _ => rfl
  have F_l_counts := fun_mk (st := s_l_counts) zl_l_counts zd_l_counts zk_l_counts
  have B_l_counts := F_l_counts.binds (ps := ["_law_program"]) fun _ _ _ _ _ _ us hl => match us, hl with | [_], _ => rfl
  have F_law := fun_mk (st := s_law) zl_law zd_law zk_law
  have B_law := F_law.binds (ps := ["_law_script"]) fun _ _ _ _ _ _ us hl => match us, hl with | [_], _ => rfl
  let T : Tx K mg := {
    n_isinstance := PySem.W.mg_none_of X G zn_isinstance
    n_tuple := PySem.W.mg_none_of X G zn_tuple
    n_str := PySem.W.mg_none_of X G zn_str
    n_len := PySem.W.mg_none_of X G zn_len
    n_all := PySem.W.mg_none_of X G zn_all
    n_int := PySem.W.mg_none_of X G zn_int
    n_range := PySem.W.mg_none_of X G zn_range
    n_enumerate := PySem.W.mg_none_of X G zn_enumerate
    n_list := PySem.W.mg_none_of X G zn_list
    n_bool := PySem.W.mg_none_of X G zn_bool
    a_SetRow := a_SetRow
    c_SetRow := PySem.W.mg_of X G zc_SetRow
    cl_SetRow := ⟨zpg_SetRow, zhd_SetRow, zpo_SetRow, zsa_SetRow⟩
    na_SetRow_name := zna_SetRow_name
    na_SetRow_one := zna_SetRow_one
    na_SetRow_sign := zna_SetRow_sign
    na_SetRow_other := zna_SetRow_other
    a_MakeRow := a_MakeRow
    c_MakeRow := PySem.W.mg_of X G zc_MakeRow
    cl_MakeRow := ⟨zpg_MakeRow, zhd_MakeRow, zpo_MakeRow, zsa_MakeRow⟩
    na_MakeRow_name := zna_MakeRow_name
    na_MakeRow_record := zna_MakeRow_record
    na_MakeRow_atoms := zna_MakeRow_atoms
    a_NoneRow := a_NoneRow
    c_NoneRow := PySem.W.mg_of X G zc_NoneRow
    cl_NoneRow := ⟨zpg_NoneRow, zhd_NoneRow, zpo_NoneRow, zsa_NoneRow⟩
    na_NoneRow_name := zna_NoneRow_name
    na_NoneRow_record := zna_NoneRow_record
    a_GiveRow := a_GiveRow
    c_GiveRow := PySem.W.mg_of X G zc_GiveRow
    cl_GiveRow := ⟨zpg_GiveRow, zhd_GiveRow, zpo_GiveRow, zsa_GiveRow⟩
    na_GiveRow_name := zna_GiveRow_name
    na_GiveRow_other := zna_GiveRow_other
    a_TakeRow := a_TakeRow
    c_TakeRow := PySem.W.mg_of X G zc_TakeRow
    cl_TakeRow := ⟨zpg_TakeRow, zhd_TakeRow, zpo_TakeRow, zsa_TakeRow⟩
    na_TakeRow_name := zna_TakeRow_name
    na_TakeRow_path := zna_TakeRow_path
    a_FillRow := a_FillRow
    c_FillRow := PySem.W.mg_of X G zc_FillRow
    cl_FillRow := ⟨zpg_FillRow, zhd_FillRow, zpo_FillRow, zsa_FillRow⟩
    na_FillRow_path := zna_FillRow_path
    na_FillRow_name := zna_FillRow_name
    a_SwapRow := a_SwapRow
    c_SwapRow := PySem.W.mg_of X G zc_SwapRow
    cl_SwapRow := ⟨zpg_SwapRow, zhd_SwapRow, zpo_SwapRow, zsa_SwapRow⟩
    na_SwapRow_name := zna_SwapRow_name
    na_SwapRow_path := zna_SwapRow_path
    a_GetRow := a_GetRow
    c_GetRow := PySem.W.mg_of X G zc_GetRow
    cl_GetRow := ⟨zpg_GetRow, zhd_GetRow, zpo_GetRow, zsa_GetRow⟩
    na_GetRow_name := zna_GetRow_name
    na_GetRow_path := zna_GetRow_path
    a_PutRow := a_PutRow
    c_PutRow := PySem.W.mg_of X G zc_PutRow
    cl_PutRow := ⟨zpg_PutRow, zhd_PutRow, zpo_PutRow, zsa_PutRow⟩
    na_PutRow_path := zna_PutRow_path
    na_PutRow_atom := zna_PutRow_atom
    a_HasRow := a_HasRow
    c_HasRow := PySem.W.mg_of X G zc_HasRow
    cl_HasRow := ⟨zpg_HasRow, zhd_HasRow, zpo_HasRow, zsa_HasRow⟩
    na_HasRow_name := zna_HasRow_name
    na_HasRow_path := zna_HasRow_path
    a_DropRow := a_DropRow
    c_DropRow := PySem.W.mg_of X G zc_DropRow
    cl_DropRow := ⟨zpg_DropRow, zhd_DropRow, zpo_DropRow, zsa_DropRow⟩
    na_DropRow_name := zna_DropRow_name
    a_LendRow := a_LendRow
    c_LendRow := PySem.W.mg_of X G zc_LendRow
    cl_LendRow := ⟨zpg_LendRow, zhd_LendRow, zpo_LendRow, zsa_LendRow⟩
    na_LendRow_mode := zna_LendRow_mode
    na_LendRow_name := zna_LendRow_name
    na_LendRow_path := zna_LendRow_path
    a_StepRow := a_StepRow
    c_StepRow := PySem.W.mg_of X G zc_StepRow
    cl_StepRow := ⟨zpg_StepRow, zhd_StepRow, zpo_StepRow, zsa_StepRow⟩
    na_StepRow_name := zna_StepRow_name
    na_StepRow_field := zna_StepRow_field
    a_CallRow := a_CallRow
    c_CallRow := PySem.W.mg_of X G zc_CallRow
    cl_CallRow := ⟨zpg_CallRow, zhd_CallRow, zpo_CallRow, zsa_CallRow⟩
    na_CallRow_name := zna_CallRow_name
    na_CallRow_helper := zna_CallRow_helper
    na_CallRow_given := zna_CallRow_given
    a_BackRow := a_BackRow
    c_BackRow := PySem.W.mg_of X G zc_BackRow
    cl_BackRow := ⟨zpg_BackRow, zhd_BackRow, zpo_BackRow, zsa_BackRow⟩
    na_BackRow_atom := zna_BackRow_atom
    a_AskRow := a_AskRow
    c_AskRow := PySem.W.mg_of X G zc_AskRow
    cl_AskRow := ⟨zpg_AskRow, zhd_AskRow, zpo_AskRow, zsa_AskRow⟩
    na_AskRow_name := zna_AskRow_name
    a_TellRow := a_TellRow
    c_TellRow := PySem.W.mg_of X G zc_TellRow
    cl_TellRow := ⟨zpg_TellRow, zhd_TellRow, zpo_TellRow, zsa_TellRow⟩
    na_TellRow_atom := zna_TellRow_atom
    a_IfRow := a_IfRow
    c_IfRow := PySem.W.mg_of X G zc_IfRow
    cl_IfRow := ⟨zpg_IfRow, zhd_IfRow, zpo_IfRow, zsa_IfRow⟩
    na_IfRow_atom := zna_IfRow_atom
    na_IfRow_rows := zna_IfRow_rows
    na_IfRow_others := zna_IfRow_others
    a_WhileRow := a_WhileRow
    c_WhileRow := PySem.W.mg_of X G zc_WhileRow
    cl_WhileRow := ⟨zpg_WhileRow, zhd_WhileRow, zpo_WhileRow, zsa_WhileRow⟩
    na_WhileRow_atom := zna_WhileRow_atom
    na_WhileRow_rows := zna_WhileRow_rows
    a_Record := a_Record
    c_Record := PySem.W.mg_of X G zc_Record
    cl_Record := ⟨zpg_Record, zhd_Record, zpo_Record, zsa_Record⟩
    na_Record_name := zna_Record_name
    na_Record_fields := zna_Record_fields
    a_Helper := a_Helper
    c_Helper := PySem.W.mg_of X G zc_Helper
    cl_Helper := ⟨zpg_Helper, zhd_Helper, zpo_Helper, zsa_Helper⟩
    na_Helper_name := zna_Helper_name
    na_Helper_params := zna_Helper_params
    na_Helper_gives := zna_Helper_gives
    na_Helper_rows := zna_Helper_rows
    a_Program := a_Program
    c_Program := PySem.W.mg_of X G zc_Program
    cl_Program := ⟨zpg_Program, zhd_Program, zpo_Program, zsa_Program⟩
    na_Program_records := zna_Program_records
    na_Program_helpers := zna_Program_helpers
    a_Row := a_Row
    c_Row := PySem.W.mg_of X G zc_Row
    cl_Row := ⟨zpg_Row, zhd_Row, zpo_Row, zsa_Row⟩
    a_Head := a_Head
    c_Head := PySem.W.mg_of X G zc_Head
    cl_Head := ⟨zpg_Head, zhd_Head, zpo_Head, zsa_Head⟩
    na_Head_name := zna_Head_name
    na_Head_params := zna_Head_params
    na_Head_gives := zna_Head_gives
    a_Block := a_Block
    c_Block := PySem.W.mg_of X G zc_Block
    cl_Block := ⟨zpg_Block, zhd_Block, zpo_Block, zsa_Block⟩
    na_Block_word := zna_Block_word
    na_Block_atom := zna_Block_atom
    na_Block_rows := zna_Block_rows
    na_Block_others := zna_Block_others
    na_Block_beyond := zna_Block_beyond
    a_Reader := a_Reader
    c_Reader := PySem.W.mg_of X G zc_Reader
    cl_Reader := ⟨zpg_Reader, zhd_Reader, zpo_Reader, zsa_Reader⟩
    na_Reader_records := zna_Reader_records
    na_Reader_helpers := zna_Reader_helpers
    na_Reader_begun := zna_Reader_begun
    na_Reader_blocks := zna_Reader_blocks
    na_Reader_points := zna_Reader_points
    a_HoldError := a_HoldError
    c_HoldError := PySem.W.mg_of X G zc_HoldError
    hd_HoldError := holdB_ok zhd_HoldError
    m_LETTERS := zmc_LETTERS.imp fun _ e => PySem.W.mg_of X G e
    m_FIGURES := zmc_FIGURES.imp fun _ e => PySem.W.mg_of X G e
    m_SIGNS := zmc_SIGNS.imp fun _ e => ⟨PySem.W.mg_of X G e.1, e.2⟩
    m_KEPT := zmc_KEPT.imp fun _ e => ⟨PySem.W.mg_of X G e.1, e.2⟩
    m_LONGEST := zmc_LONGEST.imp fun _ e => PySem.W.mg_of X G e
    m_GREATEST := zmc_GREATEST.imp fun _ e => PySem.W.mg_of X G e
    m_MOST_RECORDS := zmc_MOST_RECORDS.imp fun _ e => PySem.W.mg_of X G e
    m_MOST_FIELDS := zmc_MOST_FIELDS.imp fun _ e => PySem.W.mg_of X G e
    m_MOST_HELPERS := zmc_MOST_HELPERS.imp fun _ e => PySem.W.mg_of X G e
    m_MOST_PARAMS := zmc_MOST_PARAMS.imp fun _ e => PySem.W.mg_of X G e
    m_MOST_ROWS := zmc_MOST_ROWS.imp fun _ e => PySem.W.mg_of X G e
    m_MOST_DEEP := zmc_MOST_DEEP.imp fun _ e => PySem.W.mg_of X G e
    m_MOST_PATH := zmc_MOST_PATH.imp fun _ e => PySem.W.mg_of X G e
    f_NoText_init := f_NoText_init
    d_NoText_init := _
    F_NoText_init := F_NoText_init
    B_NoText_init := B_NoText_init
    a_NoText := a_NoText
    c_NoText := PySem.W.mg_of X G zc_NoText
    ox_NoText := ⟨oexCB_ok zox_NoText, zsx_NoText, zbx_NoText, ztx_NoText, zkx_NoText⟩
    xf_NoText := xfB_ok zxf_NoText
    iC_NoText := za_NoText_init
    tI_NoText := zti_NoText
    xa_NoText_where := zxa_NoText_where
    em_NoText_NoText := zmm_NoText_NoText
    ek_NoText_NoText := zkk_NoText_NoText
    f_shown := f_shown
    d_shown := _
    F_shown := F_shown
    B_shown := B_shown
    m_shown := PySem.W.mg_of X G za_shown
    f_Row_head := f_Row_head
    d_Row_head := _
    F_Row_head := F_Row_head
    B_Row_head := B_Row_head
    f_SetRow_init := f_SetRow_init
    d_SetRow_init := _
    F_SetRow_init := F_SetRow_init
    B_SetRow_init := B_SetRow_init
    Mk_SetRow := ⟨zmk_SetRow, za_SetRow_init, zi_SetRow_init, zkc_SetRow⟩
    f_SetRow_told := f_SetRow_told
    d_SetRow_told := _
    F_SetRow_told := F_SetRow_told
    B_SetRow_told := B_SetRow_told
    f_MakeRow_init := f_MakeRow_init
    d_MakeRow_init := _
    F_MakeRow_init := F_MakeRow_init
    B_MakeRow_init := B_MakeRow_init
    Mk_MakeRow := ⟨zmk_MakeRow, za_MakeRow_init, zi_MakeRow_init, zkc_MakeRow⟩
    f_MakeRow_told := f_MakeRow_told
    d_MakeRow_told := _
    F_MakeRow_told := F_MakeRow_told
    B_MakeRow_told := B_MakeRow_told
    f_NoneRow_init := f_NoneRow_init
    d_NoneRow_init := _
    F_NoneRow_init := F_NoneRow_init
    B_NoneRow_init := B_NoneRow_init
    Mk_NoneRow := ⟨zmk_NoneRow, za_NoneRow_init, zi_NoneRow_init, zkc_NoneRow⟩
    f_NoneRow_told := f_NoneRow_told
    d_NoneRow_told := _
    F_NoneRow_told := F_NoneRow_told
    B_NoneRow_told := B_NoneRow_told
    f_GiveRow_init := f_GiveRow_init
    d_GiveRow_init := _
    F_GiveRow_init := F_GiveRow_init
    B_GiveRow_init := B_GiveRow_init
    Mk_GiveRow := ⟨zmk_GiveRow, za_GiveRow_init, zi_GiveRow_init, zkc_GiveRow⟩
    f_GiveRow_told := f_GiveRow_told
    d_GiveRow_told := _
    F_GiveRow_told := F_GiveRow_told
    B_GiveRow_told := B_GiveRow_told
    f_TakeRow_init := f_TakeRow_init
    d_TakeRow_init := _
    F_TakeRow_init := F_TakeRow_init
    B_TakeRow_init := B_TakeRow_init
    Mk_TakeRow := ⟨zmk_TakeRow, za_TakeRow_init, zi_TakeRow_init, zkc_TakeRow⟩
    f_TakeRow_told := f_TakeRow_told
    d_TakeRow_told := _
    F_TakeRow_told := F_TakeRow_told
    B_TakeRow_told := B_TakeRow_told
    f_FillRow_init := f_FillRow_init
    d_FillRow_init := _
    F_FillRow_init := F_FillRow_init
    B_FillRow_init := B_FillRow_init
    Mk_FillRow := ⟨zmk_FillRow, za_FillRow_init, zi_FillRow_init, zkc_FillRow⟩
    f_FillRow_told := f_FillRow_told
    d_FillRow_told := _
    F_FillRow_told := F_FillRow_told
    B_FillRow_told := B_FillRow_told
    f_SwapRow_init := f_SwapRow_init
    d_SwapRow_init := _
    F_SwapRow_init := F_SwapRow_init
    B_SwapRow_init := B_SwapRow_init
    Mk_SwapRow := ⟨zmk_SwapRow, za_SwapRow_init, zi_SwapRow_init, zkc_SwapRow⟩
    f_SwapRow_told := f_SwapRow_told
    d_SwapRow_told := _
    F_SwapRow_told := F_SwapRow_told
    B_SwapRow_told := B_SwapRow_told
    f_GetRow_init := f_GetRow_init
    d_GetRow_init := _
    F_GetRow_init := F_GetRow_init
    B_GetRow_init := B_GetRow_init
    Mk_GetRow := ⟨zmk_GetRow, za_GetRow_init, zi_GetRow_init, zkc_GetRow⟩
    f_GetRow_told := f_GetRow_told
    d_GetRow_told := _
    F_GetRow_told := F_GetRow_told
    B_GetRow_told := B_GetRow_told
    f_PutRow_init := f_PutRow_init
    d_PutRow_init := _
    F_PutRow_init := F_PutRow_init
    B_PutRow_init := B_PutRow_init
    Mk_PutRow := ⟨zmk_PutRow, za_PutRow_init, zi_PutRow_init, zkc_PutRow⟩
    f_PutRow_told := f_PutRow_told
    d_PutRow_told := _
    F_PutRow_told := F_PutRow_told
    B_PutRow_told := B_PutRow_told
    f_HasRow_init := f_HasRow_init
    d_HasRow_init := _
    F_HasRow_init := F_HasRow_init
    B_HasRow_init := B_HasRow_init
    Mk_HasRow := ⟨zmk_HasRow, za_HasRow_init, zi_HasRow_init, zkc_HasRow⟩
    f_HasRow_told := f_HasRow_told
    d_HasRow_told := _
    F_HasRow_told := F_HasRow_told
    B_HasRow_told := B_HasRow_told
    f_DropRow_init := f_DropRow_init
    d_DropRow_init := _
    F_DropRow_init := F_DropRow_init
    B_DropRow_init := B_DropRow_init
    Mk_DropRow := ⟨zmk_DropRow, za_DropRow_init, zi_DropRow_init, zkc_DropRow⟩
    f_DropRow_told := f_DropRow_told
    d_DropRow_told := _
    F_DropRow_told := F_DropRow_told
    B_DropRow_told := B_DropRow_told
    f_LendRow_init := f_LendRow_init
    d_LendRow_init := _
    F_LendRow_init := F_LendRow_init
    B_LendRow_init := B_LendRow_init
    Mk_LendRow := ⟨zmk_LendRow, za_LendRow_init, zi_LendRow_init, zkc_LendRow⟩
    f_LendRow_told := f_LendRow_told
    d_LendRow_told := _
    F_LendRow_told := F_LendRow_told
    B_LendRow_told := B_LendRow_told
    f_StepRow_init := f_StepRow_init
    d_StepRow_init := _
    F_StepRow_init := F_StepRow_init
    B_StepRow_init := B_StepRow_init
    Mk_StepRow := ⟨zmk_StepRow, za_StepRow_init, zi_StepRow_init, zkc_StepRow⟩
    f_StepRow_told := f_StepRow_told
    d_StepRow_told := _
    F_StepRow_told := F_StepRow_told
    B_StepRow_told := B_StepRow_told
    f_CallRow_init := f_CallRow_init
    d_CallRow_init := _
    F_CallRow_init := F_CallRow_init
    B_CallRow_init := B_CallRow_init
    Mk_CallRow := ⟨zmk_CallRow, za_CallRow_init, zi_CallRow_init, zkc_CallRow⟩
    f_CallRow_told := f_CallRow_told
    d_CallRow_told := _
    F_CallRow_told := F_CallRow_told
    B_CallRow_told := B_CallRow_told
    f_BackRow_init := f_BackRow_init
    d_BackRow_init := _
    F_BackRow_init := F_BackRow_init
    B_BackRow_init := B_BackRow_init
    Mk_BackRow := ⟨zmk_BackRow, za_BackRow_init, zi_BackRow_init, zkc_BackRow⟩
    f_BackRow_told := f_BackRow_told
    d_BackRow_told := _
    F_BackRow_told := F_BackRow_told
    B_BackRow_told := B_BackRow_told
    f_AskRow_init := f_AskRow_init
    d_AskRow_init := _
    F_AskRow_init := F_AskRow_init
    B_AskRow_init := B_AskRow_init
    Mk_AskRow := ⟨zmk_AskRow, za_AskRow_init, zi_AskRow_init, zkc_AskRow⟩
    f_AskRow_told := f_AskRow_told
    d_AskRow_told := _
    F_AskRow_told := F_AskRow_told
    B_AskRow_told := B_AskRow_told
    f_TellRow_init := f_TellRow_init
    d_TellRow_init := _
    F_TellRow_init := F_TellRow_init
    B_TellRow_init := B_TellRow_init
    Mk_TellRow := ⟨zmk_TellRow, za_TellRow_init, zi_TellRow_init, zkc_TellRow⟩
    f_TellRow_told := f_TellRow_told
    d_TellRow_told := _
    F_TellRow_told := F_TellRow_told
    B_TellRow_told := B_TellRow_told
    f_IfRow_init := f_IfRow_init
    d_IfRow_init := _
    F_IfRow_init := F_IfRow_init
    B_IfRow_init := B_IfRow_init
    Mk_IfRow := ⟨zmk_IfRow, za_IfRow_init, zi_IfRow_init, zkc_IfRow⟩
    f_IfRow_told := f_IfRow_told
    d_IfRow_told := _
    F_IfRow_told := F_IfRow_told
    B_IfRow_told := B_IfRow_told
    f_WhileRow_init := f_WhileRow_init
    d_WhileRow_init := _
    F_WhileRow_init := F_WhileRow_init
    B_WhileRow_init := B_WhileRow_init
    Mk_WhileRow := ⟨zmk_WhileRow, za_WhileRow_init, zi_WhileRow_init, zkc_WhileRow⟩
    f_WhileRow_told := f_WhileRow_told
    d_WhileRow_told := _
    F_WhileRow_told := F_WhileRow_told
    B_WhileRow_told := B_WhileRow_told
    f_Record_init := f_Record_init
    d_Record_init := _
    F_Record_init := F_Record_init
    B_Record_init := B_Record_init
    Mk_Record := ⟨zmk_Record, za_Record_init, zi_Record_init, zkc_Record⟩
    f_Record_told := f_Record_told
    d_Record_told := _
    F_Record_told := F_Record_told
    B_Record_told := B_Record_told
    f_Helper_init := f_Helper_init
    d_Helper_init := _
    F_Helper_init := F_Helper_init
    B_Helper_init := B_Helper_init
    Mk_Helper := ⟨zmk_Helper, za_Helper_init, zi_Helper_init, zkc_Helper⟩
    f_Helper_told := f_Helper_told
    d_Helper_told := _
    F_Helper_told := F_Helper_told
    B_Helper_told := B_Helper_told
    f_Program_init := f_Program_init
    d_Program_init := _
    F_Program_init := F_Program_init
    B_Program_init := B_Program_init
    Mk_Program := ⟨zmk_Program, za_Program_init, zi_Program_init, zkc_Program⟩
    f_Program_told := f_Program_told
    d_Program_told := _
    F_Program_told := F_Program_told
    B_Program_told := B_Program_told
    f_SetRow_head := f_SetRow_head
    d_SetRow_head := _
    F_SetRow_head := F_SetRow_head
    B_SetRow_head := B_SetRow_head
    f_MakeRow_head := f_MakeRow_head
    d_MakeRow_head := _
    F_MakeRow_head := F_MakeRow_head
    B_MakeRow_head := B_MakeRow_head
    f_HasRow_head := f_HasRow_head
    d_HasRow_head := _
    F_HasRow_head := F_HasRow_head
    B_HasRow_head := B_HasRow_head
    f_CallRow_head := f_CallRow_head
    d_CallRow_head := _
    F_CallRow_head := F_CallRow_head
    B_CallRow_head := B_CallRow_head
    f_IfRow_head := f_IfRow_head
    d_IfRow_head := _
    F_IfRow_head := F_IfRow_head
    B_IfRow_head := B_IfRow_head
    f_WhileRow_head := f_WhileRow_head
    d_WhileRow_head := _
    F_WhileRow_head := F_WhileRow_head
    B_WhileRow_head := B_WhileRow_head
    f_all_told := f_all_told
    d_all_told := _
    F_all_told := F_all_told
    B_all_told := B_all_told
    m_all_told := PySem.W.mg_of X G za_all_told
    f_is_name := f_is_name
    d_is_name := _
    F_is_name := F_is_name
    B_is_name := B_is_name
    m_is_name := PySem.W.mg_of X G za_is_name
    f_is_kind := f_is_kind
    d_is_kind := _
    F_is_kind := F_is_kind
    B_is_kind := B_is_kind
    m_is_kind := PySem.W.mg_of X G za_is_kind
    f_number_of := f_number_of
    d_number_of := _
    F_number_of := F_number_of
    B_number_of := B_number_of
    m_number_of := PySem.W.mg_of X G za_number_of
    f_atom_of := f_atom_of
    d_atom_of := _
    F_atom_of := F_atom_of
    B_atom_of := B_atom_of
    m_atom_of := PySem.W.mg_of X G za_atom_of
    f_path_of := f_path_of
    d_path_of := _
    F_path_of := F_path_of
    B_path_of := B_path_of
    m_path_of := PySem.W.mg_of X G za_path_of
    f_given_of := f_given_of
    d_given_of := _
    F_given_of := F_given_of
    B_given_of := B_given_of
    m_given_of := PySem.W.mg_of X G za_given_of
    f_set_of := f_set_of
    d_set_of := _
    F_set_of := F_set_of
    B_set_of := B_set_of
    m_set_of := PySem.W.mg_of X G za_set_of
    f_make_of := f_make_of
    d_make_of := _
    F_make_of := F_make_of
    B_make_of := B_make_of
    m_make_of := PySem.W.mg_of X G za_make_of
    f_call_of := f_call_of
    d_call_of := _
    F_call_of := F_call_of
    B_call_of := B_call_of
    m_call_of := PySem.W.mg_of X G za_call_of
    f_path_row_of := f_path_row_of
    d_path_row_of := _
    F_path_row_of := F_path_row_of
    B_path_row_of := B_path_row_of
    m_path_row_of := PySem.W.mg_of X G za_path_row_of
    f_pair_row_of := f_pair_row_of
    d_pair_row_of := _
    F_pair_row_of := F_pair_row_of
    B_pair_row_of := B_pair_row_of
    m_pair_row_of := PySem.W.mg_of X G za_pair_row_of
    f_into_row_of := f_into_row_of
    d_into_row_of := _
    F_into_row_of := F_into_row_of
    B_into_row_of := B_into_row_of
    m_into_row_of := PySem.W.mg_of X G za_into_row_of
    f_single_row_of := f_single_row_of
    d_single_row_of := _
    F_single_row_of := F_single_row_of
    B_single_row_of := B_single_row_of
    m_single_row_of := PySem.W.mg_of X G za_single_row_of
    f_row_by := f_row_by
    d_row_by := _
    F_row_by := F_row_by
    B_row_by := B_row_by
    m_row_by := PySem.W.mg_of X G za_row_by
    f_record_by := f_record_by
    d_record_by := _
    F_record_by := F_record_by
    B_record_by := B_record_by
    m_record_by := PySem.W.mg_of X G za_record_by
    f_param_by := f_param_by
    d_param_by := _
    F_param_by := F_param_by
    B_param_by := B_param_by
    m_param_by := PySem.W.mg_of X G za_param_by
    f_Head_init := f_Head_init
    d_Head_init := _
    F_Head_init := F_Head_init
    B_Head_init := B_Head_init
    Mk_Head := ⟨zmk_Head, za_Head_init, zi_Head_init, zkc_Head⟩
    f_head_by := f_head_by
    d_head_by := _
    F_head_by := F_head_by
    B_head_by := B_head_by
    m_head_by := PySem.W.mg_of X G za_head_by
    f_Block_init := f_Block_init
    d_Block_init := _
    F_Block_init := F_Block_init
    B_Block_init := B_Block_init
    Mk_Block := ⟨zmk_Block, za_Block_init, zi_Block_init, zkc_Block⟩
    f_Block_put := f_Block_put
    d_Block_put := _
    F_Block_put := F_Block_put
    B_Block_put := B_Block_put
    f_Reader_init := f_Reader_init
    d_Reader_init := _
    F_Reader_init := F_Reader_init
    B_Reader_init := B_Reader_init
    Mk_Reader := ⟨zmk_Reader, za_Reader_init, zi_Reader_init, zkc_Reader⟩
    f_Reader_opened := f_Reader_opened
    d_Reader_opened := _
    F_Reader_opened := F_Reader_opened
    B_Reader_opened := B_Reader_opened
    f_Reader_turned := f_Reader_turned
    d_Reader_turned := _
    F_Reader_turned := F_Reader_turned
    B_Reader_turned := B_Reader_turned
    f_Reader_shut := f_Reader_shut
    d_Reader_shut := _
    F_Reader_shut := F_Reader_shut
    B_Reader_shut := B_Reader_shut
    f_Reader_finished := f_Reader_finished
    d_Reader_finished := _
    F_Reader_finished := F_Reader_finished
    B_Reader_finished := B_Reader_finished
    f_Reader_within := f_Reader_within
    d_Reader_within := _
    F_Reader_within := F_Reader_within
    B_Reader_within := B_Reader_within
    f_Reader_without := f_Reader_without
    d_Reader_without := _
    F_Reader_without := F_Reader_without
    B_Reader_without := B_Reader_without
    f_Reader_good := f_Reader_good
    d_Reader_good := _
    F_Reader_good := F_Reader_good
    B_Reader_good := B_Reader_good
    f_read := f_read
    d_read := _
    F_read := F_read
    B_read := B_read
    m_read := PySem.W.mg_of X G za_read
    f_Row_inner := f_Row_inner
    d_Row_inner := _
    F_Row_inner := F_Row_inner
    B_Row_inner := B_Row_inner
    f_IfRow_inner := f_IfRow_inner
    d_IfRow_inner := _
    F_IfRow_inner := F_IfRow_inner
    B_IfRow_inner := B_IfRow_inner
    f_WhileRow_inner := f_WhileRow_inner
    d_WhileRow_inner := _
    F_WhileRow_inner := F_WhileRow_inner
    B_WhileRow_inner := B_WhileRow_inner
    f_l_draw := f_l_draw
    d_l_draw := _
    F_l_draw := F_l_draw
    B_l_draw := B_l_draw
    m_l_draw := PySem.W.mg_of X G za_l_draw
    f_l_rows_by := f_l_rows_by
    d_l_rows_by := _
    F_l_rows_by := F_l_rows_by
    B_l_rows_by := B_l_rows_by
    m_l_rows_by := PySem.W.mg_of X G za_l_rows_by
    f_l_last_row := f_l_last_row
    d_l_last_row := _
    F_l_last_row := F_l_last_row
    B_l_last_row := B_l_last_row
    m_l_last_row := PySem.W.mg_of X G za_l_last_row
    f_l_built := f_l_built
    d_l_built := _
    F_l_built := F_l_built
    B_l_built := B_l_built
    m_l_built := PySem.W.mg_of X G za_l_built
    f_l_counts := f_l_counts
    d_l_counts := _
    F_l_counts := F_l_counts
    B_l_counts := B_l_counts
    m_l_counts := PySem.W.mg_of X G za_l_counts
    f_law := fa
    d_law := _
    F_law := F_law
    B_law := B_law
    m_law := PySem.W.mg_of X G za_law
    M_SetRow_told := ⟨zm_SetRow_told, zi_SetRow_told, zk_SetRow_told⟩
    M_SetRow_head := ⟨zm_SetRow_head, zi_SetRow_head, zk_SetRow_head⟩
    M_SetRow_inner := ⟨zm_SetRow_inner, zi_Row_inner, zk_Row_inner⟩
    M_MakeRow_told := ⟨zm_MakeRow_told, zi_MakeRow_told, zk_MakeRow_told⟩
    M_MakeRow_head := ⟨zm_MakeRow_head, zi_MakeRow_head, zk_MakeRow_head⟩
    M_MakeRow_inner := ⟨zm_MakeRow_inner, zi_Row_inner, zk_Row_inner⟩
    M_NoneRow_told := ⟨zm_NoneRow_told, zi_NoneRow_told, zk_NoneRow_told⟩
    M_NoneRow_head := ⟨zm_NoneRow_head, zi_Row_head, zk_Row_head⟩
    M_NoneRow_inner := ⟨zm_NoneRow_inner, zi_Row_inner, zk_Row_inner⟩
    M_GiveRow_told := ⟨zm_GiveRow_told, zi_GiveRow_told, zk_GiveRow_told⟩
    M_GiveRow_head := ⟨zm_GiveRow_head, zi_Row_head, zk_Row_head⟩
    M_GiveRow_inner := ⟨zm_GiveRow_inner, zi_Row_inner, zk_Row_inner⟩
    M_TakeRow_told := ⟨zm_TakeRow_told, zi_TakeRow_told, zk_TakeRow_told⟩
    M_TakeRow_head := ⟨zm_TakeRow_head, zi_Row_head, zk_Row_head⟩
    M_TakeRow_inner := ⟨zm_TakeRow_inner, zi_Row_inner, zk_Row_inner⟩
    M_FillRow_told := ⟨zm_FillRow_told, zi_FillRow_told, zk_FillRow_told⟩
    M_FillRow_head := ⟨zm_FillRow_head, zi_Row_head, zk_Row_head⟩
    M_FillRow_inner := ⟨zm_FillRow_inner, zi_Row_inner, zk_Row_inner⟩
    M_SwapRow_told := ⟨zm_SwapRow_told, zi_SwapRow_told, zk_SwapRow_told⟩
    M_SwapRow_head := ⟨zm_SwapRow_head, zi_Row_head, zk_Row_head⟩
    M_SwapRow_inner := ⟨zm_SwapRow_inner, zi_Row_inner, zk_Row_inner⟩
    M_GetRow_told := ⟨zm_GetRow_told, zi_GetRow_told, zk_GetRow_told⟩
    M_GetRow_head := ⟨zm_GetRow_head, zi_Row_head, zk_Row_head⟩
    M_GetRow_inner := ⟨zm_GetRow_inner, zi_Row_inner, zk_Row_inner⟩
    M_PutRow_told := ⟨zm_PutRow_told, zi_PutRow_told, zk_PutRow_told⟩
    M_PutRow_head := ⟨zm_PutRow_head, zi_Row_head, zk_Row_head⟩
    M_PutRow_inner := ⟨zm_PutRow_inner, zi_Row_inner, zk_Row_inner⟩
    M_HasRow_told := ⟨zm_HasRow_told, zi_HasRow_told, zk_HasRow_told⟩
    M_HasRow_head := ⟨zm_HasRow_head, zi_HasRow_head, zk_HasRow_head⟩
    M_HasRow_inner := ⟨zm_HasRow_inner, zi_Row_inner, zk_Row_inner⟩
    M_DropRow_told := ⟨zm_DropRow_told, zi_DropRow_told, zk_DropRow_told⟩
    M_DropRow_head := ⟨zm_DropRow_head, zi_Row_head, zk_Row_head⟩
    M_DropRow_inner := ⟨zm_DropRow_inner, zi_Row_inner, zk_Row_inner⟩
    M_LendRow_told := ⟨zm_LendRow_told, zi_LendRow_told, zk_LendRow_told⟩
    M_LendRow_head := ⟨zm_LendRow_head, zi_Row_head, zk_Row_head⟩
    M_LendRow_inner := ⟨zm_LendRow_inner, zi_Row_inner, zk_Row_inner⟩
    M_StepRow_told := ⟨zm_StepRow_told, zi_StepRow_told, zk_StepRow_told⟩
    M_StepRow_head := ⟨zm_StepRow_head, zi_Row_head, zk_Row_head⟩
    M_StepRow_inner := ⟨zm_StepRow_inner, zi_Row_inner, zk_Row_inner⟩
    M_CallRow_told := ⟨zm_CallRow_told, zi_CallRow_told, zk_CallRow_told⟩
    M_CallRow_head := ⟨zm_CallRow_head, zi_CallRow_head, zk_CallRow_head⟩
    M_CallRow_inner := ⟨zm_CallRow_inner, zi_Row_inner, zk_Row_inner⟩
    M_BackRow_told := ⟨zm_BackRow_told, zi_BackRow_told, zk_BackRow_told⟩
    M_BackRow_head := ⟨zm_BackRow_head, zi_Row_head, zk_Row_head⟩
    M_BackRow_inner := ⟨zm_BackRow_inner, zi_Row_inner, zk_Row_inner⟩
    M_AskRow_told := ⟨zm_AskRow_told, zi_AskRow_told, zk_AskRow_told⟩
    M_AskRow_head := ⟨zm_AskRow_head, zi_Row_head, zk_Row_head⟩
    M_AskRow_inner := ⟨zm_AskRow_inner, zi_Row_inner, zk_Row_inner⟩
    M_TellRow_told := ⟨zm_TellRow_told, zi_TellRow_told, zk_TellRow_told⟩
    M_TellRow_head := ⟨zm_TellRow_head, zi_Row_head, zk_Row_head⟩
    M_TellRow_inner := ⟨zm_TellRow_inner, zi_Row_inner, zk_Row_inner⟩
    M_IfRow_told := ⟨zm_IfRow_told, zi_IfRow_told, zk_IfRow_told⟩
    M_IfRow_head := ⟨zm_IfRow_head, zi_IfRow_head, zk_IfRow_head⟩
    M_IfRow_inner := ⟨zm_IfRow_inner, zi_IfRow_inner, zk_IfRow_inner⟩
    M_WhileRow_told := ⟨zm_WhileRow_told, zi_WhileRow_told, zk_WhileRow_told⟩
    M_WhileRow_head := ⟨zm_WhileRow_head, zi_WhileRow_head, zk_WhileRow_head⟩
    M_WhileRow_inner := ⟨zm_WhileRow_inner, zi_WhileRow_inner, zk_WhileRow_inner⟩
    M_Record_told := ⟨zm_Record_told, zi_Record_told, zk_Record_told⟩
    M_Helper_told := ⟨zm_Helper_told, zi_Helper_told, zk_Helper_told⟩
    M_Program_told := ⟨zm_Program_told, zi_Program_told, zk_Program_told⟩
    M_Block_put := ⟨zm_Block_put, zi_Block_put, zk_Block_put⟩
    M_Reader_opened := ⟨zm_Reader_opened, zi_Reader_opened, zk_Reader_opened⟩
    M_Reader_turned := ⟨zm_Reader_turned, zi_Reader_turned, zk_Reader_turned⟩
    M_Reader_shut := ⟨zm_Reader_shut, zi_Reader_shut, zk_Reader_shut⟩
    M_Reader_finished := ⟨zm_Reader_finished, zi_Reader_finished, zk_Reader_finished⟩
    M_Reader_within := ⟨zm_Reader_within, zi_Reader_within, zk_Reader_within⟩
    M_Reader_without := ⟨zm_Reader_without, zi_Reader_without, zk_Reader_without⟩
    M_Reader_good := ⟨zm_Reader_good, zi_Reader_good, zk_Reader_good⟩
    isi := zisi }
  exact ⟨PySem.W.fnOf "law" "law" (defArgs s_law) (defBody s_law) (defScope s_law) .none kV_law dc_law pm_law an_law cd_law ct_law, fun s v => .of_eq rfl, fun base _ _ => ok_law T⟩
theorem facts {l : PySem.W.OpenLaw} {w : World} {K : PySem.W.Frag} {h : Heap} {mg : Str → Option Value} {fa : Addr} (X : K.In h) (G : h.Ns mainGlobals mg) (hfa : mg "law" = some (.ref fa)) (c : SaysK K) :
    ∃ fd : FuncData, (∀ (s : Shared) (v : Value), BindsTo s fd ⟨[v], []⟩ [("_law_script", v)]) ∧ ∀ base : Heap, K.In base → base.Ns mainGlobals mg → FnOk l.prog w K mg base CX0 24 fa fd ["_law_script"] (spLaw K) := by
  obtain ⟨_, _, _, _, _, _, _, _, _, zl_NoText_init, zd_NoText_init⟩ := saysD c (d := hd_NoText_init) (List.mem_of_getElem? (i := 0) (by rfl))
  obtain ⟨_, _, _, _, _, _, _, _, _, zl_shown, zd_shown⟩ := saysD c (d := hd_shown) (List.mem_of_getElem? (i := 1) (by rfl))
  obtain ⟨_, _, _, _, _, _, _, _, _, zl_Row_head, zd_Row_head⟩ := saysD c (d := hd_Row_head) (List.mem_of_getElem? (i := 2) (by rfl))
  obtain ⟨_, _, _, _, _, _, _, _, _, zl_SetRow_init, zd_SetRow_init⟩ := saysD c (d := hd_SetRow_init) (List.mem_of_getElem? (i := 3) (by rfl))
  obtain ⟨_, _, _, _, _, _, _, _, _, zl_SetRow_told, zd_SetRow_told⟩ := saysD c (d := hd_SetRow_told) (List.mem_of_getElem? (i := 4) (by rfl))
  obtain ⟨_, _, _, _, _, _, _, _, _, zl_MakeRow_init, zd_MakeRow_init⟩ := saysD c (d := hd_MakeRow_init) (List.mem_of_getElem? (i := 5) (by rfl))
  obtain ⟨_, _, _, _, _, _, _, _, _, zl_MakeRow_told, zd_MakeRow_told⟩ := saysD c (d := hd_MakeRow_told) (List.mem_of_getElem? (i := 6) (by rfl))
  obtain ⟨_, _, _, _, _, _, _, _, _, zl_NoneRow_init, zd_NoneRow_init⟩ := saysD c (d := hd_NoneRow_init) (List.mem_of_getElem? (i := 7) (by rfl))
  obtain ⟨_, _, _, _, _, _, _, _, _, zl_NoneRow_told, zd_NoneRow_told⟩ := saysD c (d := hd_NoneRow_told) (List.mem_of_getElem? (i := 8) (by rfl))
  obtain ⟨_, _, _, _, _, _, _, _, _, zl_GiveRow_init, zd_GiveRow_init⟩ := saysD c (d := hd_GiveRow_init) (List.mem_of_getElem? (i := 9) (by rfl))
  obtain ⟨_, _, _, _, _, _, _, _, _, zl_GiveRow_told, zd_GiveRow_told⟩ := saysD c (d := hd_GiveRow_told) (List.mem_of_getElem? (i := 10) (by rfl))
  obtain ⟨_, _, _, _, _, _, _, _, _, zl_TakeRow_init, zd_TakeRow_init⟩ := saysD c (d := hd_TakeRow_init) (List.mem_of_getElem? (i := 11) (by rfl))
  obtain ⟨_, _, _, _, _, _, _, _, _, zl_TakeRow_told, zd_TakeRow_told⟩ := saysD c (d := hd_TakeRow_told) (List.mem_of_getElem? (i := 12) (by rfl))
  obtain ⟨_, _, _, _, _, _, _, _, _, zl_FillRow_init, zd_FillRow_init⟩ := saysD c (d := hd_FillRow_init) (List.mem_of_getElem? (i := 13) (by rfl))
  obtain ⟨_, _, _, _, _, _, _, _, _, zl_FillRow_told, zd_FillRow_told⟩ := saysD c (d := hd_FillRow_told) (List.mem_of_getElem? (i := 14) (by rfl))
  obtain ⟨_, _, _, _, _, _, _, _, _, zl_SwapRow_init, zd_SwapRow_init⟩ := saysD c (d := hd_SwapRow_init) (List.mem_of_getElem? (i := 15) (by rfl))
  obtain ⟨_, _, _, _, _, _, _, _, _, zl_SwapRow_told, zd_SwapRow_told⟩ := saysD c (d := hd_SwapRow_told) (List.mem_of_getElem? (i := 16) (by rfl))
  obtain ⟨_, _, _, _, _, _, _, _, _, zl_GetRow_init, zd_GetRow_init⟩ := saysD c (d := hd_GetRow_init) (List.mem_of_getElem? (i := 17) (by rfl))
  obtain ⟨_, _, _, _, _, _, _, _, _, zl_GetRow_told, zd_GetRow_told⟩ := saysD c (d := hd_GetRow_told) (List.mem_of_getElem? (i := 18) (by rfl))
  obtain ⟨_, _, _, _, _, _, _, _, _, zl_PutRow_init, zd_PutRow_init⟩ := saysD c (d := hd_PutRow_init) (List.mem_of_getElem? (i := 19) (by rfl))
  obtain ⟨_, _, _, _, _, _, _, _, _, zl_PutRow_told, zd_PutRow_told⟩ := saysD c (d := hd_PutRow_told) (List.mem_of_getElem? (i := 20) (by rfl))
  obtain ⟨_, _, _, _, _, _, _, _, _, zl_HasRow_init, zd_HasRow_init⟩ := saysD c (d := hd_HasRow_init) (List.mem_of_getElem? (i := 21) (by rfl))
  obtain ⟨_, _, _, _, _, _, _, _, _, zl_HasRow_told, zd_HasRow_told⟩ := saysD c (d := hd_HasRow_told) (List.mem_of_getElem? (i := 22) (by rfl))
  obtain ⟨_, _, _, _, _, _, _, _, _, zl_DropRow_init, zd_DropRow_init⟩ := saysD c (d := hd_DropRow_init) (List.mem_of_getElem? (i := 23) (by rfl))
  obtain ⟨_, _, _, _, _, _, _, _, _, zl_DropRow_told, zd_DropRow_told⟩ := saysD c (d := hd_DropRow_told) (List.mem_of_getElem? (i := 24) (by rfl))
  obtain ⟨_, _, _, _, _, _, _, _, _, zl_LendRow_init, zd_LendRow_init⟩ := saysD c (d := hd_LendRow_init) (List.mem_of_getElem? (i := 25) (by rfl))
  obtain ⟨_, _, _, _, _, _, _, _, _, zl_LendRow_told, zd_LendRow_told⟩ := saysD c (d := hd_LendRow_told) (List.mem_of_getElem? (i := 26) (by rfl))
  obtain ⟨_, _, _, _, _, _, _, _, _, zl_StepRow_init, zd_StepRow_init⟩ := saysD c (d := hd_StepRow_init) (List.mem_of_getElem? (i := 27) (by rfl))
  obtain ⟨_, _, _, _, _, _, _, _, _, zl_StepRow_told, zd_StepRow_told⟩ := saysD c (d := hd_StepRow_told) (List.mem_of_getElem? (i := 28) (by rfl))
  obtain ⟨_, _, _, _, _, _, _, _, _, zl_CallRow_init, zd_CallRow_init⟩ := saysD c (d := hd_CallRow_init) (List.mem_of_getElem? (i := 29) (by rfl))
  obtain ⟨_, _, _, _, _, _, _, _, _, zl_CallRow_told, zd_CallRow_told⟩ := saysD c (d := hd_CallRow_told) (List.mem_of_getElem? (i := 30) (by rfl))
  obtain ⟨_, _, _, _, _, _, _, _, _, zl_BackRow_init, zd_BackRow_init⟩ := saysD c (d := hd_BackRow_init) (List.mem_of_getElem? (i := 31) (by rfl))
  obtain ⟨_, _, _, _, _, _, _, _, _, zl_BackRow_told, zd_BackRow_told⟩ := saysD c (d := hd_BackRow_told) (List.mem_of_getElem? (i := 32) (by rfl))
  obtain ⟨_, _, _, _, _, _, _, _, _, zl_AskRow_init, zd_AskRow_init⟩ := saysD c (d := hd_AskRow_init) (List.mem_of_getElem? (i := 33) (by rfl))
  obtain ⟨_, _, _, _, _, _, _, _, _, zl_AskRow_told, zd_AskRow_told⟩ := saysD c (d := hd_AskRow_told) (List.mem_of_getElem? (i := 34) (by rfl))
  obtain ⟨_, _, _, _, _, _, _, _, _, zl_TellRow_init, zd_TellRow_init⟩ := saysD c (d := hd_TellRow_init) (List.mem_of_getElem? (i := 35) (by rfl))
  obtain ⟨_, _, _, _, _, _, _, _, _, zl_TellRow_told, zd_TellRow_told⟩ := saysD c (d := hd_TellRow_told) (List.mem_of_getElem? (i := 36) (by rfl))
  obtain ⟨_, _, _, _, _, _, _, _, _, zl_IfRow_init, zd_IfRow_init⟩ := saysD c (d := hd_IfRow_init) (List.mem_of_getElem? (i := 37) (by rfl))
  obtain ⟨_, _, _, _, _, _, _, _, _, zl_IfRow_told, zd_IfRow_told⟩ := saysD c (d := hd_IfRow_told) (List.mem_of_getElem? (i := 38) (by rfl))
  obtain ⟨_, _, _, _, _, _, _, _, _, zl_WhileRow_init, zd_WhileRow_init⟩ := saysD c (d := hd_WhileRow_init) (List.mem_of_getElem? (i := 39) (by rfl))
  obtain ⟨_, _, _, _, _, _, _, _, _, zl_WhileRow_told, zd_WhileRow_told⟩ := saysD c (d := hd_WhileRow_told) (List.mem_of_getElem? (i := 40) (by rfl))
  obtain ⟨_, _, _, _, _, _, _, _, _, zl_Record_init, zd_Record_init⟩ := saysD c (d := hd_Record_init) (List.mem_of_getElem? (i := 41) (by rfl))
  obtain ⟨_, _, _, _, _, _, _, _, _, zl_Record_told, zd_Record_told⟩ := saysD c (d := hd_Record_told) (List.mem_of_getElem? (i := 42) (by rfl))
  obtain ⟨_, _, _, _, _, _, _, _, _, zl_Helper_init, zd_Helper_init⟩ := saysD c (d := hd_Helper_init) (List.mem_of_getElem? (i := 43) (by rfl))
  obtain ⟨_, _, _, _, _, _, _, _, _, zl_Helper_told, zd_Helper_told⟩ := saysD c (d := hd_Helper_told) (List.mem_of_getElem? (i := 44) (by rfl))
  obtain ⟨_, _, _, _, _, _, _, _, _, zl_Program_init, zd_Program_init⟩ := saysD c (d := hd_Program_init) (List.mem_of_getElem? (i := 45) (by rfl))
  obtain ⟨_, _, _, _, _, _, _, _, _, zl_Program_told, zd_Program_told⟩ := saysD c (d := hd_Program_told) (List.mem_of_getElem? (i := 46) (by rfl))
  obtain ⟨_, _, _, _, _, _, _, _, _, zl_SetRow_head, zd_SetRow_head⟩ := saysD c (d := hd_SetRow_head) (List.mem_of_getElem? (i := 47) (by rfl))
  obtain ⟨_, _, _, _, _, _, _, _, _, zl_MakeRow_head, zd_MakeRow_head⟩ := saysD c (d := hd_MakeRow_head) (List.mem_of_getElem? (i := 48) (by rfl))
  obtain ⟨_, _, _, _, _, _, _, _, _, zl_HasRow_head, zd_HasRow_head⟩ := saysD c (d := hd_HasRow_head) (List.mem_of_getElem? (i := 49) (by rfl))
  obtain ⟨_, _, _, _, _, _, _, _, _, zl_CallRow_head, zd_CallRow_head⟩ := saysD c (d := hd_CallRow_head) (List.mem_of_getElem? (i := 50) (by rfl))
  obtain ⟨_, _, _, _, _, _, _, _, _, zl_IfRow_head, zd_IfRow_head⟩ := saysD c (d := hd_IfRow_head) (List.mem_of_getElem? (i := 51) (by rfl))
  obtain ⟨_, _, _, _, _, _, _, _, _, zl_WhileRow_head, zd_WhileRow_head⟩ := saysD c (d := hd_WhileRow_head) (List.mem_of_getElem? (i := 52) (by rfl))
  obtain ⟨_, _, _, _, _, _, _, _, _, zl_all_told, zd_all_told⟩ := saysD c (d := hd_all_told) (List.mem_of_getElem? (i := 53) (by rfl))
  obtain ⟨_, _, _, _, _, _, _, _, _, zl_is_name, zd_is_name⟩ := saysD c (d := hd_is_name) (List.mem_of_getElem? (i := 54) (by rfl))
  obtain ⟨_, _, _, _, _, _, _, _, _, zl_is_kind, zd_is_kind⟩ := saysD c (d := hd_is_kind) (List.mem_of_getElem? (i := 55) (by rfl))
  obtain ⟨_, _, _, _, _, _, _, _, _, zl_number_of, zd_number_of⟩ := saysD c (d := hd_number_of) (List.mem_of_getElem? (i := 56) (by rfl))
  obtain ⟨_, _, _, _, _, _, _, _, _, zl_atom_of, zd_atom_of⟩ := saysD c (d := hd_atom_of) (List.mem_of_getElem? (i := 57) (by rfl))
  obtain ⟨_, _, _, _, _, _, _, _, _, zl_path_of, zd_path_of⟩ := saysD c (d := hd_path_of) (List.mem_of_getElem? (i := 58) (by rfl))
  obtain ⟨_, _, _, _, _, _, _, _, _, zl_given_of, zd_given_of⟩ := saysD c (d := hd_given_of) (List.mem_of_getElem? (i := 59) (by rfl))
  obtain ⟨_, _, _, _, _, _, _, _, _, zl_set_of, zd_set_of⟩ := saysD c (d := hd_set_of) (List.mem_of_getElem? (i := 60) (by rfl))
  obtain ⟨_, _, _, _, _, _, _, _, _, zl_make_of, zd_make_of⟩ := saysD c (d := hd_make_of) (List.mem_of_getElem? (i := 61) (by rfl))
  obtain ⟨_, _, _, _, _, _, _, _, _, zl_call_of, zd_call_of⟩ := saysD c (d := hd_call_of) (List.mem_of_getElem? (i := 62) (by rfl))
  obtain ⟨_, _, _, _, _, _, _, _, _, zl_path_row_of, zd_path_row_of⟩ := saysD c (d := hd_path_row_of) (List.mem_of_getElem? (i := 63) (by rfl))
  obtain ⟨_, _, _, _, _, _, _, _, _, zl_pair_row_of, zd_pair_row_of⟩ := saysD c (d := hd_pair_row_of) (List.mem_of_getElem? (i := 64) (by rfl))
  obtain ⟨_, _, _, _, _, _, _, _, _, zl_into_row_of, zd_into_row_of⟩ := saysD c (d := hd_into_row_of) (List.mem_of_getElem? (i := 65) (by rfl))
  obtain ⟨_, _, _, _, _, _, _, _, _, zl_single_row_of, zd_single_row_of⟩ := saysD c (d := hd_single_row_of) (List.mem_of_getElem? (i := 66) (by rfl))
  obtain ⟨_, _, _, _, _, _, _, _, _, zl_row_by, zd_row_by⟩ := saysD c (d := hd_row_by) (List.mem_of_getElem? (i := 67) (by rfl))
  obtain ⟨_, _, _, _, _, _, _, _, _, zl_record_by, zd_record_by⟩ := saysD c (d := hd_record_by) (List.mem_of_getElem? (i := 68) (by rfl))
  obtain ⟨_, _, _, _, _, _, _, _, _, zl_param_by, zd_param_by⟩ := saysD c (d := hd_param_by) (List.mem_of_getElem? (i := 69) (by rfl))
  obtain ⟨_, _, _, _, _, _, _, _, _, zl_Head_init, zd_Head_init⟩ := saysD c (d := hd_Head_init) (List.mem_of_getElem? (i := 70) (by rfl))
  obtain ⟨_, _, _, _, _, _, _, _, _, zl_head_by, zd_head_by⟩ := saysD c (d := hd_head_by) (List.mem_of_getElem? (i := 71) (by rfl))
  obtain ⟨_, _, _, _, _, _, _, _, _, zl_Block_init, zd_Block_init⟩ := saysD c (d := hd_Block_init) (List.mem_of_getElem? (i := 72) (by rfl))
  obtain ⟨_, _, _, _, _, _, _, _, _, zl_Block_put, zd_Block_put⟩ := saysD c (d := hd_Block_put) (List.mem_of_getElem? (i := 73) (by rfl))
  obtain ⟨_, _, _, _, _, _, _, _, _, zl_Reader_init, zd_Reader_init⟩ := saysD c (d := hd_Reader_init) (List.mem_of_getElem? (i := 74) (by rfl))
  obtain ⟨_, _, _, _, _, _, _, _, _, zl_Reader_opened, zd_Reader_opened⟩ := saysD c (d := hd_Reader_opened) (List.mem_of_getElem? (i := 75) (by rfl))
  obtain ⟨_, _, _, _, _, _, _, _, _, zl_Reader_turned, zd_Reader_turned⟩ := saysD c (d := hd_Reader_turned) (List.mem_of_getElem? (i := 76) (by rfl))
  obtain ⟨_, _, _, _, _, _, _, _, _, zl_Reader_shut, zd_Reader_shut⟩ := saysD c (d := hd_Reader_shut) (List.mem_of_getElem? (i := 77) (by rfl))
  obtain ⟨_, _, _, _, _, _, _, _, _, zl_Reader_finished, zd_Reader_finished⟩ := saysD c (d := hd_Reader_finished) (List.mem_of_getElem? (i := 78) (by rfl))
  obtain ⟨_, _, _, _, _, _, _, _, _, zl_Reader_within, zd_Reader_within⟩ := saysD c (d := hd_Reader_within) (List.mem_of_getElem? (i := 79) (by rfl))
  obtain ⟨_, _, _, _, _, _, _, _, _, zl_Reader_without, zd_Reader_without⟩ := saysD c (d := hd_Reader_without) (List.mem_of_getElem? (i := 80) (by rfl))
  obtain ⟨_, _, _, _, _, _, _, _, _, zl_Reader_good, zd_Reader_good⟩ := saysD c (d := hd_Reader_good) (List.mem_of_getElem? (i := 81) (by rfl))
  obtain ⟨_, _, _, _, _, _, _, _, _, zl_read, zd_read⟩ := saysD c (d := hd_read) (List.mem_of_getElem? (i := 82) (by rfl))
  obtain ⟨_, _, _, _, _, _, _, _, _, zl_Row_inner, zd_Row_inner⟩ := saysD c (d := hd_Row_inner) (List.mem_of_getElem? (i := 83) (by rfl))
  obtain ⟨_, _, _, _, _, _, _, _, _, zl_IfRow_inner, zd_IfRow_inner⟩ := saysD c (d := hd_IfRow_inner) (List.mem_of_getElem? (i := 84) (by rfl))
  obtain ⟨_, _, _, _, _, _, _, _, _, zl_WhileRow_inner, zd_WhileRow_inner⟩ := saysD c (d := hd_WhileRow_inner) (List.mem_of_getElem? (i := 85) (by rfl))
  obtain ⟨_, _, _, _, _, _, _, _, _, zl_l_draw, zd_l_draw⟩ := saysD c (d := hd_l_draw) (List.mem_of_getElem? (i := 86) (by rfl))
  obtain ⟨_, _, _, _, _, _, _, _, _, zl_l_rows_by, zd_l_rows_by⟩ := saysD c (d := hd_l_rows_by) (List.mem_of_getElem? (i := 87) (by rfl))
  obtain ⟨_, _, _, _, _, _, _, _, _, zl_l_last_row, zd_l_last_row⟩ := saysD c (d := hd_l_last_row) (List.mem_of_getElem? (i := 88) (by rfl))
  obtain ⟨_, _, _, _, _, _, _, _, _, zl_l_built, zd_l_built⟩ := saysD c (d := hd_l_built) (List.mem_of_getElem? (i := 89) (by rfl))
  obtain ⟨_, _, _, _, _, _, _, _, _, zl_l_counts, zd_l_counts⟩ := saysD c (d := hd_l_counts) (List.mem_of_getElem? (i := 90) (by rfl))
  obtain ⟨_, _, _, _, _, _, _, _, _, zl_law, zd_law⟩ := saysD c (d := hd_law) (List.mem_of_getElem? (i := 91) (by rfl))
  exact all_mk X G hfa (He.eqO_ok (hfact0 c 0)) (He.eqO_ok (hfact0 c 1)) (He.eqO_ok (hfact0 c 2)) (He.eqO_ok (hfact0 c 3)) (He.eqO_ok (hfact0 c 4)) (He.eqO_ok (hfact0 c 5)) (He.eqO_ok (hfact0 c 6)) (He.eqO_ok (hfact0 c 7)) (He.eqO_ok (hfact0 c 8)) (He.eqO_ok (hfact0 c 9)) (He.eqO_ok (hfact0 c 10)) (hfact0 c 11) (hfact0 c 12) (hfact0 c 13) (He.eqO_ok (hfact0 c 14)) (hfact0 c 15) (hfact0 c 16) (He.eqO_ok (hfact0 c 17)) (He.eqO_ok (hfact0 c 18)) (He.eqO_ok (hfact0 c 19)) (He.eqO_ok (hfact0 c 20)) (He.eqO_ok (hfact0 c 21)) (hfact0 c 22) (hfact0 c 23) (hfact0 c 24) (He.eqO_ok (hfact1 c 0)) (hfact1 c 1) (hfact1 c 2) (He.eqO_ok (hfact1 c 3)) (He.eqO_ok (hfact1 c 4)) (He.eqO_ok (hfact1 c 5)) (He.eqO_ok (hfact1 c 6)) (hfact1 c 7) (hfact1 c 8) (hfact1 c 9) (He.eqO_ok (hfact1 c 10)) (hfact1 c 11) (hfact1 c 12) (He.eqO_ok (hfact1 c 13)) (He.eqO_ok (hfact1 c 14)) (He.eqO_ok (hfact1 c 15)) (hfact1 c 16) (hfact1 c 17) (hfact1 c 18) (He.eqO_ok (hfact1 c 19)) (hfact1 c 20) (hfact1 c 21) (He.eqO_ok (hfact1 c 22)) (He.eqO_ok (hfact1 c 23)) (He.eqO_ok (hfact1 c 24)) (hfact2 c 0) (hfact2 c 1) (hfact2 c 2) (He.eqO_ok (hfact2 c 3)) (hfact2 c 4) (hfact2 c 5) (He.eqO_ok (hfact2 c 6)) (He.eqO_ok (hfact2 c 7)) (He.eqO_ok (hfact2 c 8)) (hfact2 c 9) (hfact2 c 10) (hfact2 c 11) (He.eqO_ok (hfact2 c 12)) (hfact2 c 13) (hfact2 c 14) (He.eqO_ok (hfact2 c 15)) (He.eqO_ok (hfact2 c 16)) (He.eqO_ok (hfact2 c 17)) (hfact2 c 18) (hfact2 c 19) (hfact2 c 20) (He.eqO_ok (hfact2 c 21)) (hfact2 c 22) (hfact2 c 23) (He.eqO_ok (hfact2 c 24)) (He.eqO_ok (hfact3 c 0)) (He.eqO_ok (hfact3 c 1)) (hfact3 c 2) (hfact3 c 3) (hfact3 c 4) (He.eqO_ok (hfact3 c 5)) (hfact3 c 6) (hfact3 c 7) (He.eqO_ok (hfact3 c 8)) (He.eqO_ok (hfact3 c 9)) (He.eqO_ok (hfact3 c 10)) (hfact3 c 11) (hfact3 c 12) (hfact3 c 13) (He.eqO_ok (hfact3 c 14)) (hfact3 c 15) (hfact3 c 16) (He.eqO_ok (hfact3 c 17)) (He.eqO_ok (hfact3 c 18)) (He.eqO_ok (hfact3 c 19)) (hfact3 c 20) (hfact3 c 21) (hfact3 c 22) (He.eqO_ok (hfact3 c 23)) (hfact3 c 24) (hfact4 c 0) (He.eqO_ok (hfact4 c 1)) (He.eqO_ok (hfact4 c 2)) (He.eqO_ok (hfact4 c 3)) (hfact4 c 4) (hfact4 c 5) (hfact4 c 6) (He.eqO_ok (hfact4 c 7)) (hfact4 c 8) (hfact4 c 9) (He.eqO_ok (hfact4 c 10)) (He.eqO_ok (hfact4 c 11)) (hfact4 c 12) (hfact4 c 13) (hfact4 c 14) (He.eqO_ok (hfact4 c 15)) (hfact4 c 16) (hfact4 c 17) (He.eqO_ok (hfact4 c 18)) (He.eqO_ok (hfact4 c 19)) (He.eqO_ok (hfact4 c 20)) (He.eqO_ok (hfact4 c 21)) (hfact4 c 22) (hfact4 c 23) (hfact4 c 24) (He.eqO_ok (hfact5 c 0)) (hfact5 c 1) (hfact5 c 2) (He.eqO_ok (hfact5 c 3)) (He.eqO_ok (hfact5 c 4)) (He.eqO_ok (hfact5 c 5)) (hfact5 c 6) (hfact5 c 7) (hfact5 c 8) (He.eqO_ok (hfact5 c 9)) (hfact5 c 10) (hfact5 c 11) (He.eqO_ok (hfact5 c 12)) (He.eqO_ok (hfact5 c 13)) (He.eqO_ok (hfact5 c 14)) (He.eqO_ok (hfact5 c 15)) (hfact5 c 16) (hfact5 c 17) (hfact5 c 18) (He.eqO_ok (hfact5 c 19)) (hfact5 c 20) (hfact5 c 21) (He.eqO_ok (hfact5 c 22)) (He.eqO_ok (hfact5 c 23)) (hfact5 c 24) (hfact6 c 0) (hfact6 c 1) (He.eqO_ok (hfact6 c 2)) (hfact6 c 3) (hfact6 c 4) (He.eqO_ok (hfact6 c 5)) (He.eqO_ok (hfact6 c 6)) (hfact6 c 7) (hfact6 c 8) (hfact6 c 9) (He.eqO_ok (hfact6 c 10)) (hfact6 c 11) (hfact6 c 12) (He.eqO_ok (hfact6 c 13)) (He.eqO_ok (hfact6 c 14)) (hfact6 c 15) (hfact6 c 16) (hfact6 c 17) (He.eqO_ok (hfact6 c 18)) (hfact6 c 19) (hfact6 c 20) (He.eqO_ok (hfact6 c 21)) (He.eqO_ok (hfact6 c 22)) (He.eqO_ok (hfact6 c 23)) (He.eqO_ok (hfact6 c 24)) (hfact7 c 0) (hfact7 c 1) (hfact7 c 2) (He.eqO_ok (hfact7 c 3)) (hfact7 c 4) (hfact7 c 5) (He.eqO_ok (hfact7 c 6)) (He.eqO_ok (hfact7 c 7)) (He.eqO_ok (hfact7 c 8)) (hfact7 c 9) (hfact7 c 10) (hfact7 c 11) (He.eqO_ok (hfact7 c 12)) (hfact7 c 13) (hfact7 c 14) (He.eqO_ok (hfact7 c 15)) (He.eqO_ok (hfact7 c 16)) (He.eqO_ok (hfact7 c 17)) (hfact7 c 18) (hfact7 c 19) (hfact7 c 20) (He.eqO_ok (hfact7 c 21)) (hfact7 c 22) (hfact7 c 23) (He.eqO_ok (hfact7 c 24)) (He.eqO_ok (hfact8 c 0)) (He.eqO_ok (hfact8 c 1)) (He.eqO_ok (hfact8 c 2)) (He.eqO_ok (hfact8 c 3)) (hfact8 c 4) (hfact8 c 5) (hfact8 c 6) (He.eqO_ok (hfact8 c 7)) (hfact8 c 8) (hfact8 c 9) (He.eqO_ok (hfact8 c 10)) (He.eqO_ok (hfact8 c 11)) (He.eqO_ok (hfact8 c 12)) (hfact8 c 13) (hfact8 c 14) (hfact8 c 15) (He.eqO_ok (hfact8 c 16)) (He.eqO_ok (hfact8 c 17)) (hfact8 c 18) (hfact8 c 19) (hfact8 c 20) (He.eqO_ok (hfact8 c 21)) (hfact8 c 22) (hfact8 c 23) (He.eqO_ok (hfact8 c 24)) (He.eqO_ok (hfact9 c 0)) (He.eqO_ok (hfact9 c 1)) (He.eqO_ok (hfact9 c 2)) (hfact9 c 3) (hfact9 c 4) (hfact9 c 5) (He.eqO_ok (hfact9 c 6)) (hfact9 c 7) (hfact9 c 8) (He.eqO_ok (hfact9 c 9)) (He.eqO_ok (hfact9 c 10)) (He.eqO_ok (hfact9 c 11)) (He.eqO_ok (hfact9 c 12)) (He.eqO_ok (hfact9 c 13)) (He.eqO_ok (hfact9 c 14)) (hfact9 c 15) (hfact9 c 16) (hfact9 c 17) (He.eqO_ok (hfact9 c 18)) (hfact9 c 19) (hfact9 c 20) (He.eqO_ok (hfact9 c 21)) (He.eqO_ok (hfact9 c 22)) (He.eqO_ok (hfact9 c 23)) (He.eqO_ok (hfact9 c 24)) (He.eqO_ok (hfact10 c 0)) (He.eqO_ok (hfact10 c 1)) (hfact10 c 2) (hfact10 c 3) (He.eqO_ok (hfact10 c 4)) (eqB_ok (hfact10 c 5)) (eqB_ok (hfact10 c 6)) (hfact10 c 7) (eqB_ok (hfact10 c 8)) (He.eqO_ok (hfact10 c 9)) (eqB_ok (hfact10 c 10)) (eqB_ok (hfact10 c 11)) (He.eqO_ok (hfact10 c 12)) (hfact10 c 13) (strIs_ok (hfact10 c 14)) (strIs_ok (hfact10 c 15)) (tupIs_ok (hfact10 c 16)) (tupIs_ok (hfact10 c 17)) (intIs_ok (hfact10 c 18)) (intIs_ok (hfact10 c 19)) (intIs_ok (hfact10 c 20)) (intIs_ok (hfact10 c 21)) (intIs_ok (hfact10 c 22)) (intIs_ok (hfact10 c 23)) (intIs_ok (hfact10 c 24)) (intIs_ok (hfact11 c 0)) (intIs_ok (hfact11 c 1)) (hfact11 c 2) (He.eqO_ok (hfact11 c 3)) (hfact11 c 4) zl_NoText_init zd_NoText_init (hfact11 c 5) (He.eqO_ok (hfact11 c 6)) zl_shown zd_shown (hfact11 c 7) (He.eqO_ok (hfact11 c 8)) (He.eqO_ok (hfact11 c 9)) (He.eqO_ok (hfact11 c 10)) (He.eqO_ok (hfact11 c 11)) (He.eqO_ok (hfact11 c 12)) (He.eqO_ok (hfact11 c 13)) (He.eqO_ok (hfact11 c 14)) (He.eqO_ok (hfact11 c 15)) (He.eqO_ok (hfact11 c 16)) (He.eqO_ok (hfact11 c 17)) (He.eqO_ok (hfact11 c 18)) (He.eqO_ok (hfact11 c 19)) (He.eqO_ok (hfact11 c 20)) (hfact11 c 21) zl_Row_head zd_Row_head (hfact11 c 22) (He.eqO_ok (hfact11 c 23)) (hfact11 c 24) zl_SetRow_init zd_SetRow_init (hfact12 c 0) (He.eqO_ok (hfact12 c 1)) (hfact12 c 2) zl_SetRow_told zd_SetRow_told (hfact12 c 3) (He.eqO_ok (hfact12 c 4)) (hfact12 c 5) zl_MakeRow_init zd_MakeRow_init (hfact12 c 6) (He.eqO_ok (hfact12 c 7)) (hfact12 c 8) zl_MakeRow_told zd_MakeRow_told (hfact12 c 9) (He.eqO_ok (hfact12 c 10)) (hfact12 c 11) zl_NoneRow_init zd_NoneRow_init (hfact12 c 12) (He.eqO_ok (hfact12 c 13)) (hfact12 c 14) zl_NoneRow_told zd_NoneRow_told (hfact12 c 15) (He.eqO_ok (hfact12 c 16)) (hfact12 c 17) zl_GiveRow_init zd_GiveRow_init (hfact12 c 18) (He.eqO_ok (hfact12 c 19)) (hfact12 c 20) zl_GiveRow_told zd_GiveRow_told (hfact12 c 21) (He.eqO_ok (hfact12 c 22)) (hfact12 c 23) zl_TakeRow_init zd_TakeRow_init (hfact12 c 24) (He.eqO_ok (hfact13 c 0)) (hfact13 c 1) zl_TakeRow_told zd_TakeRow_told (hfact13 c 2) (He.eqO_ok (hfact13 c 3)) (hfact13 c 4) zl_FillRow_init zd_FillRow_init (hfact13 c 5) (He.eqO_ok (hfact13 c 6)) (hfact13 c 7) zl_FillRow_told zd_FillRow_told (hfact13 c 8) (He.eqO_ok (hfact13 c 9)) (hfact13 c 10) zl_SwapRow_init zd_SwapRow_init (hfact13 c 11) (He.eqO_ok (hfact13 c 12)) (hfact13 c 13) zl_SwapRow_told zd_SwapRow_told (hfact13 c 14) (He.eqO_ok (hfact13 c 15)) (hfact13 c 16) zl_GetRow_init zd_GetRow_init (hfact13 c 17) (He.eqO_ok (hfact13 c 18)) (hfact13 c 19) zl_GetRow_told zd_GetRow_told (hfact13 c 20) (He.eqO_ok (hfact13 c 21)) (hfact13 c 22) zl_PutRow_init zd_PutRow_init (hfact13 c 23) (He.eqO_ok (hfact13 c 24)) (hfact14 c 0) zl_PutRow_told zd_PutRow_told (hfact14 c 1) (He.eqO_ok (hfact14 c 2)) (hfact14 c 3) zl_HasRow_init zd_HasRow_init (hfact14 c 4) (He.eqO_ok (hfact14 c 5)) (hfact14 c 6) zl_HasRow_told zd_HasRow_told (hfact14 c 7) (He.eqO_ok (hfact14 c 8)) (hfact14 c 9) zl_DropRow_init zd_DropRow_init (hfact14 c 10) (He.eqO_ok (hfact14 c 11)) (hfact14 c 12) zl_DropRow_told zd_DropRow_told (hfact14 c 13) (He.eqO_ok (hfact14 c 14)) (hfact14 c 15) zl_LendRow_init zd_LendRow_init (hfact14 c 16) (He.eqO_ok (hfact14 c 17)) (hfact14 c 18) zl_LendRow_told zd_LendRow_told (hfact14 c 19) (He.eqO_ok (hfact14 c 20)) (hfact14 c 21) zl_StepRow_init zd_StepRow_init (hfact14 c 22) (He.eqO_ok (hfact14 c 23)) (hfact14 c 24) zl_StepRow_told zd_StepRow_told (hfact15 c 0) (He.eqO_ok (hfact15 c 1)) (hfact15 c 2) zl_CallRow_init zd_CallRow_init (hfact15 c 3) (He.eqO_ok (hfact15 c 4)) (hfact15 c 5) zl_CallRow_told zd_CallRow_told (hfact15 c 6) (He.eqO_ok (hfact15 c 7)) (hfact15 c 8) zl_BackRow_init zd_BackRow_init (hfact15 c 9) (He.eqO_ok (hfact15 c 10)) (hfact15 c 11) zl_BackRow_told zd_BackRow_told (hfact15 c 12) (He.eqO_ok (hfact15 c 13)) (hfact15 c 14) zl_AskRow_init zd_AskRow_init (hfact15 c 15) (He.eqO_ok (hfact15 c 16)) (hfact15 c 17) zl_AskRow_told zd_AskRow_told (hfact15 c 18) (He.eqO_ok (hfact15 c 19)) (hfact15 c 20) zl_TellRow_init zd_TellRow_init (hfact15 c 21) (He.eqO_ok (hfact15 c 22)) (hfact15 c 23) zl_TellRow_told zd_TellRow_told (hfact15 c 24) (He.eqO_ok (hfact16 c 0)) (hfact16 c 1) zl_IfRow_init zd_IfRow_init (hfact16 c 2) (He.eqO_ok (hfact16 c 3)) (hfact16 c 4) zl_IfRow_told zd_IfRow_told (hfact16 c 5) (He.eqO_ok (hfact16 c 6)) (hfact16 c 7) zl_WhileRow_init zd_WhileRow_init (hfact16 c 8) (He.eqO_ok (hfact16 c 9)) (hfact16 c 10) zl_WhileRow_told zd_WhileRow_told (hfact16 c 11) (He.eqO_ok (hfact16 c 12)) (hfact16 c 13) zl_Record_init zd_Record_init (hfact16 c 14) (He.eqO_ok (hfact16 c 15)) (hfact16 c 16) zl_Record_told zd_Record_told (hfact16 c 17) (He.eqO_ok (hfact16 c 18)) (hfact16 c 19) zl_Helper_init zd_Helper_init (hfact16 c 20) (He.eqO_ok (hfact16 c 21)) (hfact16 c 22) zl_Helper_told zd_Helper_told (hfact16 c 23) (He.eqO_ok (hfact16 c 24)) (hfact17 c 0) zl_Program_init zd_Program_init (hfact17 c 1) (He.eqO_ok (hfact17 c 2)) (hfact17 c 3) zl_Program_told zd_Program_told (hfact17 c 4) (He.eqO_ok (hfact17 c 5)) (hfact17 c 6) zl_SetRow_head zd_SetRow_head (hfact17 c 7) (He.eqO_ok (hfact17 c 8)) (hfact17 c 9) zl_MakeRow_head zd_MakeRow_head (hfact17 c 10) (He.eqO_ok (hfact17 c 11)) (hfact17 c 12) zl_HasRow_head zd_HasRow_head (hfact17 c 13) (He.eqO_ok (hfact17 c 14)) (hfact17 c 15) zl_CallRow_head zd_CallRow_head (hfact17 c 16) (He.eqO_ok (hfact17 c 17)) (hfact17 c 18) zl_IfRow_head zd_IfRow_head (hfact17 c 19) (He.eqO_ok (hfact17 c 20)) (hfact17 c 21) zl_WhileRow_head zd_WhileRow_head (hfact17 c 22) (He.eqO_ok (hfact17 c 23)) zl_all_told zd_all_told (hfact17 c 24) (He.eqO_ok (hfact18 c 0)) zl_is_name zd_is_name (hfact18 c 1) (He.eqO_ok (hfact18 c 2)) zl_is_kind zd_is_kind (hfact18 c 3) (He.eqO_ok (hfact18 c 4)) zl_number_of zd_number_of (hfact18 c 5) (He.eqO_ok (hfact18 c 6)) zl_atom_of zd_atom_of (hfact18 c 7) (He.eqO_ok (hfact18 c 8)) zl_path_of zd_path_of (hfact18 c 9) (He.eqO_ok (hfact18 c 10)) zl_given_of zd_given_of (hfact18 c 11) (He.eqO_ok (hfact18 c 12)) zl_set_of zd_set_of (hfact18 c 13) (He.eqO_ok (hfact18 c 14)) zl_make_of zd_make_of (hfact18 c 15) (He.eqO_ok (hfact18 c 16)) zl_call_of zd_call_of (hfact18 c 17) (He.eqO_ok (hfact18 c 18)) zl_path_row_of zd_path_row_of (hfact18 c 19) (He.eqO_ok (hfact18 c 20)) zl_pair_row_of zd_pair_row_of (hfact18 c 21) (He.eqO_ok (hfact18 c 22)) zl_into_row_of zd_into_row_of (hfact18 c 23) (He.eqO_ok (hfact18 c 24)) zl_single_row_of zd_single_row_of (hfact19 c 0) (He.eqO_ok (hfact19 c 1)) zl_row_by zd_row_by (hfact19 c 2) (He.eqO_ok (hfact19 c 3)) zl_record_by zd_record_by (hfact19 c 4) (He.eqO_ok (hfact19 c 5)) zl_param_by zd_param_by (hfact19 c 6) (He.eqO_ok (hfact19 c 7)) (hfact19 c 8) zl_Head_init zd_Head_init (hfact19 c 9) (He.eqO_ok (hfact19 c 10)) zl_head_by zd_head_by (hfact19 c 11) (He.eqO_ok (hfact19 c 12)) (hfact19 c 13) zl_Block_init zd_Block_init (hfact19 c 14) (He.eqO_ok (hfact19 c 15)) (hfact19 c 16) zl_Block_put zd_Block_put (hfact19 c 17) (He.eqO_ok (hfact19 c 18)) (hfact19 c 19) zl_Reader_init zd_Reader_init (hfact19 c 20) (He.eqO_ok (hfact19 c 21)) (hfact19 c 22) zl_Reader_opened zd_Reader_opened (hfact19 c 23) (He.eqO_ok (hfact19 c 24)) (hfact20 c 0) zl_Reader_turned zd_Reader_turned (hfact20 c 1) (He.eqO_ok (hfact20 c 2)) (hfact20 c 3) zl_Reader_shut zd_Reader_shut (hfact20 c 4) (He.eqO_ok (hfact20 c 5)) (hfact20 c 6) zl_Reader_finished zd_Reader_finished (hfact20 c 7) (He.eqO_ok (hfact20 c 8)) (hfact20 c 9) zl_Reader_within zd_Reader_within (hfact20 c 10) (He.eqO_ok (hfact20 c 11)) (hfact20 c 12) zl_Reader_without zd_Reader_without (hfact20 c 13) (He.eqO_ok (hfact20 c 14)) (hfact20 c 15) zl_Reader_good zd_Reader_good (hfact20 c 16) (He.eqO_ok (hfact20 c 17)) zl_read zd_read (hfact20 c 18) (He.eqO_ok (hfact20 c 19)) (He.eqO_ok (hfact20 c 20)) (He.eqO_ok (hfact20 c 21)) (He.eqO_ok (hfact20 c 22)) (He.eqO_ok (hfact20 c 23)) (He.eqO_ok (hfact20 c 24)) (He.eqO_ok (hfact21 c 0)) (He.eqO_ok (hfact21 c 1)) (He.eqO_ok (hfact21 c 2)) (He.eqO_ok (hfact21 c 3)) (He.eqO_ok (hfact21 c 4)) (He.eqO_ok (hfact21 c 5)) (He.eqO_ok (hfact21 c 6)) (He.eqO_ok (hfact21 c 7)) (He.eqO_ok (hfact21 c 8)) (He.eqO_ok (hfact21 c 9)) (He.eqO_ok (hfact21 c 10)) (hfact21 c 11) zl_Row_inner zd_Row_inner (hfact21 c 12) (He.eqO_ok (hfact21 c 13)) (hfact21 c 14) zl_IfRow_inner zd_IfRow_inner (hfact21 c 15) (He.eqO_ok (hfact21 c 16)) (hfact21 c 17) zl_WhileRow_inner zd_WhileRow_inner (hfact21 c 18) (He.eqO_ok (hfact21 c 19)) zl_l_draw zd_l_draw (hfact21 c 20) (He.eqO_ok (hfact21 c 21)) zl_l_rows_by zd_l_rows_by (hfact21 c 22) (He.eqO_ok (hfact21 c 23)) zl_l_last_row zd_l_last_row (hfact21 c 24) (He.eqO_ok (hfact22 c 0)) zl_l_built zd_l_built (hfact22 c 1) (He.eqO_ok (hfact22 c 2)) zl_l_counts zd_l_counts (hfact22 c 3) (He.eqO_ok (hfact22 c 4)) zl_law zd_law (hfact22 c 5)
end My
theorem PySem.Challenge.cw_holders_k07_bounds_holds : PySem.Challenge.rw_holders_k07_bounds.Holds := by
  exact skel_end fun w K h mg fa X G hfa c => My.facts X G hfa c

