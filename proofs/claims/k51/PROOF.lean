import PyProof.Rows.All
import Wide.All
import OpenK.AllK
import Wide.FinOn
import KE.KStateDown
import HandS.Head0
import HandS.Head1
import HandS.Head2
import HandS.HeadEnd
import HandS.HeadHook1
import HandS.ForMost
import HandS.More
import HandS.IsInst
import HandS.Strs
import HandS.Wide
import HandS.Zip
import HandS.TupAny
import PySem.Challenge.RW_holders_k51_world
set_option linter.all false
set_option Elab.async false
set_option maxRecDepth 100000
set_option maxHeartbeats 4000000
namespace My
open PySem L2
def top (i : Nat) : Stmt := PySem.Challenge.pw_holders_k51_world.main.body.getD i (.Pass ⟨0, 0, 0, 0⟩)
abbrev s_World_init : Stmt := inClass (top 1) 0
abbrev s_World_make : Stmt := inClass (top 1) 1
abbrev s_World_read : Stmt := inClass (top 1) 2
abbrev s_World_write : Stmt := inClass (top 1) 3
abbrev s_World_many : Stmt := inClass (top 1) 4
abbrev s_World_inside : Stmt := inClass (top 1) 5
abbrev s_l_draw : Stmt := top 3
abbrev s_l_alike : Stmt := top 4
abbrev s_l_value : Stmt := top 5
abbrev s_l_done : Stmt := top 6
abbrev s_l_good : Stmt := top 7
abbrev s_law : Stmt := top 8
theorem sc_World_init : FnScope ["self"] ["self"] (defScope s_World_init) := ⟨rfl, rfl, rfl, by decide +kernel, rfl, by decide +kernel, by decide +kernel⟩
theorem sc_World_make : FnScope ["self", "record", "values"] ["self", "record", "values"] (defScope s_World_make) := ⟨rfl, rfl, rfl, by decide +kernel, rfl, by decide +kernel, by decide +kernel⟩
theorem sc_World_read : FnScope ["self", "box", "at"] ["self", "box", "at"] (defScope s_World_read) := ⟨rfl, rfl, rfl, by decide +kernel, rfl, by decide +kernel, by decide +kernel⟩
theorem sc_World_write : FnScope ["self", "box", "at", "value"] ["self", "box", "at", "value"] (defScope s_World_write) := ⟨rfl, rfl, rfl, by decide +kernel, rfl, by decide +kernel, by decide +kernel⟩
theorem sc_World_many : FnScope ["self"] ["self"] (defScope s_World_many) := ⟨rfl, rfl, rfl, by decide +kernel, rfl, by decide +kernel, by decide +kernel⟩
theorem sc_World_inside : FnScope ["self", "box"] ["self", "box"] (defScope s_World_inside) := ⟨rfl, rfl, rfl, by decide +kernel, rfl, by decide +kernel, by decide +kernel⟩
theorem sc_l_draw : FnScope ["_law_script", "_law_tape", "_law_many", "_law_k", "_law_cell", "_law_one", "_law_two"] ["_law_script", "_law_tape", "_law_many"] (defScope s_l_draw) := ⟨rfl, rfl, rfl, by decide +kernel, rfl, by decide +kernel, by decide +kernel⟩
theorem sc_l_alike : FnScope ["_law_found", "_law_due", "_law_one", "_law_other"] ["_law_found", "_law_due"] (defScope s_l_alike) := ⟨rfl, rfl, rfl, by decide +kernel, rfl, by decide +kernel, by decide +kernel⟩
theorem sc_l_value : FnScope ["_law_script", "_law_tape", "_law_many", "_law_way"] ["_law_script", "_law_tape", "_law_many"] (defScope s_l_value) := ⟨rfl, rfl, rfl, by decide +kernel, rfl, by decide +kernel, by decide +kernel⟩
theorem sc_l_done : FnScope ["_law_script", "_law_tape", "_law_world", "_law_boxes", "_law_way", "_law_record", "_law_values", "_law_put_in", "_law_found", "_law_box", "_law_at", "_law_k"] ["_law_script", "_law_tape", "_law_world", "_law_boxes"] (defScope s_l_done) := ⟨rfl, rfl, rfl, by decide +kernel, rfl, by decide +kernel, by decide +kernel⟩
theorem sc_l_good : FnScope ["_law_world", "_law_boxes", "_law_held", "_law_box", "_law_found", "_law_due"] ["_law_world", "_law_boxes", "_law_held"] (defScope s_l_good) := ⟨rfl, rfl, rfl, by decide +kernel, rfl, by decide +kernel, by decide +kernel⟩
theorem sc_law : FnScope ["_law_script", "_law_tape", "_law_worlds", "_law_boxes", "_law_held", "_law_turn", "_law_which", "_law_box"] ["_law_script"] (defScope s_law) := ⟨rfl, rfl, rfl, by decide +kernel, rfl, by decide +kernel, by decide +kernel⟩
structure Tx (K : PySem.W.Frag) (mg : Str → Option Value) where
  n_list : mg "list" = none
  n_len : mg "len" = none
  n_tuple : mg "tuple" = none
  n_isinstance : mg "isinstance" = none
  n_all : mg "all" = none
  n_zip : mg "zip" = none
  n_int : mg "int" = none
  n_bool : mg "bool" = none
  n_str : mg "str" = none
  n_range : mg "range" = none
  a_World : Addr
  c_World : mg "World" = some (.ref a_World)
  cl_World : Cls K a_World
  na_World_boxes : NoAttr K a_World "boxes"
  f_World_init : Addr
  d_World_init : FuncData
  F_World_init : Fun K "__init__" "World.__init__" s_World_init f_World_init d_World_init
  B_World_init : Binds K d_World_init ["self"] []
  Mk_World : Mk K a_World f_World_init
  f_World_make : Addr
  d_World_make : FuncData
  F_World_make : Fun K "make" "World.make" s_World_make f_World_make d_World_make
  B_World_make : Binds K d_World_make ["self", "record", "values"] []
  f_World_read : Addr
  d_World_read : FuncData
  F_World_read : Fun K "read" "World.read" s_World_read f_World_read d_World_read
  B_World_read : Binds K d_World_read ["self", "box", "at"] []
  f_World_write : Addr
  d_World_write : FuncData
  F_World_write : Fun K "write" "World.write" s_World_write f_World_write d_World_write
  B_World_write : Binds K d_World_write ["self", "box", "at", "value"] []
  f_World_many : Addr
  d_World_many : FuncData
  F_World_many : Fun K "many" "World.many" s_World_many f_World_many d_World_many
  B_World_many : Binds K d_World_many ["self"] []
  f_World_inside : Addr
  d_World_inside : FuncData
  F_World_inside : Fun K "inside" "World.inside" s_World_inside f_World_inside d_World_inside
  B_World_inside : Binds K d_World_inside ["self", "box"] []
  f_l_draw : Addr
  d_l_draw : FuncData
  F_l_draw : Fun K "_law_draw" "_law_draw" s_l_draw f_l_draw d_l_draw
  B_l_draw : Binds K d_l_draw ["_law_script", "_law_tape", "_law_many"] []
  m_l_draw : mg "_law_draw" = some (.ref f_l_draw)
  f_l_alike : Addr
  d_l_alike : FuncData
  F_l_alike : Fun K "_law_alike" "_law_alike" s_l_alike f_l_alike d_l_alike
  B_l_alike : Binds K d_l_alike ["_law_found", "_law_due"] []
  m_l_alike : mg "_law_alike" = some (.ref f_l_alike)
  f_l_value : Addr
  d_l_value : FuncData
  F_l_value : Fun K "_law_value" "_law_value" s_l_value f_l_value d_l_value
  B_l_value : Binds K d_l_value ["_law_script", "_law_tape", "_law_many"] []
  m_l_value : mg "_law_value" = some (.ref f_l_value)
  f_l_done : Addr
  d_l_done : FuncData
  F_l_done : Fun K "_law_done" "_law_done" s_l_done f_l_done d_l_done
  B_l_done : Binds K d_l_done ["_law_script", "_law_tape", "_law_world", "_law_boxes"] []
  m_l_done : mg "_law_done" = some (.ref f_l_done)
  f_l_good : Addr
  d_l_good : FuncData
  F_l_good : Fun K "_law_good" "_law_good" s_l_good f_l_good d_l_good
  B_l_good : Binds K d_l_good ["_law_world", "_law_boxes", "_law_held"] []
  m_l_good : mg "_law_good" = some (.ref f_l_good)
  f_law : Addr
  d_law : FuncData
  F_law : Fun K "law" "law" s_law f_law d_law
  B_law : Binds K d_law ["_law_script"] []
  m_law : mg "law" = some (.ref f_law)
  M_World_make : Meth K a_World "make" f_World_make
  M_World_read : Meth K a_World "read" f_World_read
  M_World_write : Meth K a_World "write" f_World_write
  M_World_many : Meth K a_World "many" f_World_many
  M_World_inside : Meth K a_World "inside" f_World_inside
theorem cmR {i j : Int} (h0 : -1000000000000 < j) (h1 : j < 1000000000000) : CMul i j := by
  have e : (2 : Int) ^ 64 = 18446744073709551616 := by decide
  exact .inr ⟨by rw [e]; omega, by rw [e]; omega⟩
theorem cmL {i j : Int} (h0 : -1000000000000 < i) (h1 : i < 1000000000000) : CMul i j := by
  have e : (2 : Int) ^ 64 = 18446744073709551616 := by decide
  exact .inl ⟨by rw [e]; omega, by rw [e]; omega⟩
theorem dvW {i j : Int} (h0 : 0 < j) (h1 : j < 1000000000000) : CDivW i j := wide_div h0 (b := 40) (by
  have e : (2 : Nat) ^ 40 = 1099511627776 := by decide
  rw [e]
  omega) (by decide) (by decide)
theorem ints_at {ns : List Int} {k : Nat} {z : Int} (h : ns[k]? = some z) : atI (ns.map V.int) (k : Int) = some (.int z) := atI_nat (by rw [List.getElem?_map, h]; rfl)
/-! ### data that is compared -/
theorem dpInts {K : PySem.W.Frag} {H : Hp} : ∀ ns : List Int, DpAll K H (ns.map V.int) (ns.map PyData.int)
  | [] => .nil
  | n :: ns => .cons (.int n) (dpInts ns)
theorem dpIntL {K : PySem.W.Frag} {H : Hp} {a : Addr} {ns : List Int} (h : SqL K H a (ns.map V.int)) : Dp K H (.ref a) (.list (ns.map PyData.int)) := .lst h (dpInts ns)
theorem layInts : ∀ ns : List Int, PyData.canLayAll0 (ns.map PyData.int) = true
  | [] => by simp [PyData.canLayAll0]
  | n :: ns => by simp [PyData.canLayAll0, PyData.canLay0, layInts ns]
theorem deepInts : ∀ ns : List Int, PyData.depthAll (ns.map PyData.int) ≤ 1
  | [] => by simp [PyData.depthAll]
  | n :: ns => by
    have := deepInts ns
    simp only [List.map_cons, PyData.depthAll, PyData.depth]
    omega
theorem shapedOf {d : PyData} (h : d.canLay0 = true) (h2 : d.depth ≤ 64) : SeqAt.shaped d = true := by
  unfold SeqAt.shaped
  rw [h, decide_eq_true h2] <;> rfl
theorem shInts (ns : List Int) : SeqAt.shaped (.list (ns.map PyData.int)) = true := shapedOf (by simp only [PyData.canLay0]; exact layInts ns) (by
  have := deepInts ns
  simp only [PyData.depth]
  omega)
theorem eqvAllInts : ∀ ns ms : List Int, PyData.eqvAll (ns.map PyData.int) (ms.map PyData.int) = decide (ns = ms)
  | [], [] => by simp [PyData.eqvAll]
  | [], m :: ms => by simp [PyData.eqvAll]
  | n :: ns, [] => by simp [PyData.eqvAll]
  | n :: ns, m :: ms => by
    have e := eqvAllInts ns ms
    simp only [List.map_cons, PyData.eqvAll, PyData.eqv, e]
    by_cases h : n = m <;> by_cases h2 : ns = ms <;> simp [h, h2]
theorem eqvInts (ns ms : List Int) : PyData.eqv (.list (ns.map PyData.int)) (.list (ms.map PyData.int)) = decide (ns = ms) := by
  rw [PyData.eqv]
  exact eqvAllInts ns ms
/-! ### tests whose outcome is known, heaps that stay -/
theorem iteDF {c A B : Prop} [Decidable c] (hc : ¬ c) (h : B) : if decide c = true then A else B := by
  rw [decide_eq_false hc]
  exact iteF h
theorem iteDT {c A B : Prop} [Decidable c] (hc : c) (h : A) : if decide c = true then A else B := by
  rw [decide_eq_true hc]
  exact iteT h
theorem iteBF {b : Bool} {A B : Prop} (hb : b = false) (h : B) : if b = true then A else B := by
  subst hb
  exact iteF h
theorem iteBT {b : Bool} {A B : Prop} (hb : b = true) (h : A) : if b = true then A else B := by
  subst hb
  exact iteT h
theorem same_upd {H : Hp} {a : Addr} {o : HO} (h : H a = none) : Same H (upd H a o) := fun b u e => by
  rw [upd_ne (ne_of_none e h)]
  exact e
theorem same_updT {H H' : Hp} {a : Addr} {o : HO} (s : Same H H') (h : H a = none) : Same H (upd H' a o) := fun b u e => by
  rw [upd_ne (ne_of_none e h)]
  exact s b u e
theorem sameT {K : PySem.W.Frag} {H H' : Hp} {a : Addr} {xs : List V} (e : Same H H') (h : SqT K H a xs) : SqT K H' a xs := by
  rcases h with (h | ⟨o, h⟩) | h
  · exact .inl (.inl (e _ _ h))
  · exact .inl (.inr ⟨o, e _ _ h⟩)
  · exact .inr h
theorem cut_hi (xs : List V) (n : Nat) : cutV xs none (some (n : Int)) = xs.take n := by
  unfold cutV
  rw [HT.sIx_none, HT.sIx_nat, List.drop_zero, Nat.sub_zero, ← List.take_eq_take_min]
theorem cut_lo (xs : List V) (n : Nat) : cutV xs (some (n : Int)) none = xs.drop n := by
  unfold cutV
  rw [HT.sIx_none, HT.sIx_nat]
  by_cases h : n ≤ xs.length
  · rw [Nat.min_eq_left h, ← List.length_drop, List.take_length]
  · rw [Nat.min_eq_right (by omega), List.drop_eq_nil_of_le (by omega : xs.length ≤ xs.length), List.drop_eq_nil_of_le (by omega : xs.length ≤ n)]
    simp
theorem inInts (z : Int) (l : List Int) : inV (.int z) (l.map V.int) = decide (z ∈ l) := by
  unfold inV
  rw [List.any_map, Bool.eq_iff_iff]
  simp only [List.any_eq_true, Function.comp, eqV, beq_iff_eq, decide_eq_true_eq]
  exact ⟨fun ⟨x, h, e⟩ => e ▸ h, fun h => ⟨z, h, rfl⟩⟩
theorem flatInts (l : List Int) : (l.map V.int).all flatV = true := by
  rw [List.all_map, List.all_eq_true]
  intro _ _
  rfl
/-! ### rules that speak of the written part, with it by name (within comprehensions) -/
section
variable {X : Cx} {K : PySem.W.Frag}
theorem len_seqK (h : X.K = K) : CallR X (.builtin "len") (fun xs H Q => ∃ p ys, xs = [.ref p] ∧ (SqL K H p ys ∨ SqT K H p ys) ∧ Q (.int ys.length) H) := by
  subst h
  exact call_len_seq
theorem list_ofK (h : X.K = K) : CallR X (.type "list") (fun xs H Q => ∃ p ys, xs = [.ref p] ∧ (SqL K H p ys ∨ SqT K H p ys) ∧ ∀ l, H l = none → Q (.ref l) (upd H l (.lst ys))) := by
  subst h
  exact call_list_of
theorem tuple_ofK (h : X.K = K) : CallR X (.type "tuple") (fun xs H Q => ∃ p ys, xs = [.ref p] ∧ ((SqL K H p ys ∧ ∀ l, H l = none → Q (.ref l) (upd H l (.tup ys))) ∨ (SqT K H p ys ∧ Q (.ref p) H))) := by
  subst h
  exact call_tuple_of
theorem in_seqK (h : X.K = K) : OpR X (compareOp .In) (rIn K false) := by
  subst h
  exact op_in_seq
theorem notIn_seqK (h : X.K = K) : OpR X (compareOp .NotIn) (rIn K true) := by
  subst h
  exact op_notIn_seq
theorem eqDK (h : X.K = K) (hu : X.A.units + 64 < cLine) : OpR X (compareOp .Eq) (rEqD K) := by
  subst h
  exact op_eqD hu
theorem neDK (h : X.K = K) (hu : X.A.units + 64 < cLine) : OpR X (compareOp .NotEq) (rNeD K) := by
  subst h
  exact op_neD hu
theorem ix_listK (h : X.K = K) : IxR X (rIxL K) := by
  subst h
  exact ix_list
theorem ix_tupK (h : X.K = K) : IxR X (rIxT K) := by
  subst h
  exact ix_tup
end
section
variable {X : Cx} {K : PySem.W.Frag} {o e : Expr} {f : Str} {pos : Pos} {ta : TE} {tg : Expr}
theorem fldK (h : X.K = K) (he : PE X e ta) (hb : attributeBase e f X.env (eval e X.env) = eval e X.env) : PE X (.Attribute e f pos) (tFld K ta f) := by
  subst h
  exact pe_fld he hb
theorem sl_listK (h : X.K = K) : SlR X (rSlL K) := by
  subst h
  exact sl_list
theorem sl_tupAK (h : X.K = K) : SlR X (rSlA K) := by
  subst h
  exact sl_tupA
theorem catAK (h : X.K = K) : OpR X (binaryOp .Add) (rCatA K) := by
  subst h
  exact op_catA
theorem isiK (h : X.K = K) : CallR X (.builtin "isinstance") (rIsi K) := by
  subst h
  exact call_isi
theorem pi_tupK (h : X.K = K) (he : PE X e ta) : PI X tg e (iTup K ta) := by
  subst h
  exact pi_tup he
theorem pi_listK (h : X.K = K) (he : PE X e ta) : PI X tg e (iList K ta) := by
  subst h
  exact pi_list he
/-- one of two readings -/
def tAlt (t u : TE) : TE := fun σ H Q => t σ H Q ∨ u σ H Q
theorem peAlt {t u : TE} (h1 : PE X e t) (h2 : PE X e u) : PE X e (tAlt t u) :=
  ⟨fun pins s σ H Q I h => h.elim (h1.run pins s σ H Q I) (h2.run pins s σ H Q I)⟩
end
theorem putF_len {f : Str} {v : V} : ∀ fs : List (Str × V), (putF f v fs).length ≤ fs.length + 1
  | [] => Nat.le_refl _
  | (g, x) :: r => by
    show (if g = f then (g, v) :: r else (g, x) :: putF f v r).length ≤ _
    split
    · simp
    · have := putF_len (f := f) (v := v) r
      simp only [List.length_cons]
      omega
theorem same_made {H : Hp} {x dx C : Addr} {fs : List (Str × V)} (nx : H x = none) (nd : H dx = none) : Same H (upd (upd H dx (.own x)) x (.ins C dx fs)) := fun b o e => by
  rw [upd_ne (ne_of_none e nx), upd_ne (ne_of_none e nd)]
  exact e
/-- what stands, but one object -/
def SameBut (p : Addr) (H H' : Hp) : Prop := ∀ b o, H b = some o → b ≠ p → H' b = some o
theorem SameBut.made {H H2 : Hp} {x dx C : Addr} {fs : List (Str × V)} (s : SameBut x (upd (upd H dx (.own x)) x (.ins C dx fs)) H2) (nx : H x = none) (nd : H dx = none) : Same H H2 := fun b o e =>
  s b o (same_made nx nd b o e) (ne_of_none e nx)
local macro_rules | `(tactic| walk_at "flook") => `(tactic| (repeat (first | rw [lookup_putF, if_pos rfl] | rw [lookup_putF, if_neg (by decide +kernel)])))
theorem yes {σ : St} {H : Hp} {Q : Bool → Hp → Prop} (h : Q true H) : tYes σ H Q := h
theorem noPart {σ : St} {H : Hp} {Q : Option Int → Hp → Prop} (h : Q none H) : tNoPart σ H Q := h
/-! ### what stays -/
theorem fresh {H H' : Hp} {p : Addr} {o : HO} (hp : H p = none) (e : upd H p o = H') : Same H H' ∧ H' p = some o := by
  subst e
  exact ⟨same_upd hp, upd_same⟩
def still : HO → Prop
  | .tup _ => True
  | .ins _ _ _ => True
  | _ => False
/-- tuples and instances stay -/
def Keep (H H' : Hp) : Prop := ∀ b o, H b = some o → still o → H' b = some o
theorem Keep.of {H H' : Hp} (s : Same H H') : Keep H H' := fun b o e _ => s b o e
theorem Keep.but {H H' : Hp} {f : Addr} {kvs : List (Key × V)} (s : SameBut f H H') (hf : H f = some (.dK kvs)) : Keep H H' := fun b o e st => s b o e (by
  intro q
  subst q
  rw [hf] at e
  cases e
  exact st)
theorem Keep.butL {H H' : Hp} {f : Addr} {xs : List V} (s : SameBut f H H') (hf : H f = some (.lst xs)) : Keep H H' := fun b o e st => s b o e (by
  intro q
  subst q
  rw [hf] at e
  cases e
  exact st)
theorem Keep.trans {H H1 H2 : Hp} (a : Keep H H1) (b : Keep H1 H2) : Keep H H2 := fun p o e st => b p o (a p o e st) st
/-! ### readings, step by step: a word for each reading, and the tactic that applies them -/
/-- a new object -/
structure New (p : Addr) (o : HO) (H H' : Hp) : Prop where
  free : H p = none
  at_ : H' p = some o
  same : Same H H'
/-- one object changed -/
structure Chg (p : Addr) (o o' : HO) (H H' : Hp) : Prop where
  was : H p = some o
  at_ : H' p = some o'
  but : SameBut p H H'
def kd : HO → Nat
  | .lst _ => 0
  | .tup _ => 1
  | .dK _ => 2
  | .dT _ => 3
  | .ins _ _ _ => 4
  | _ => 9
section
variable {H H' H'' : Hp} {p q : Addr} {o u a b : HO}
theorem New.mk' (h : H p = none) : New p o H (upd H p o) := ⟨h, upd_same, same_upd h⟩
theorem Chg.mk' (h : H p = some o) : Chg p o u H (upd H p u) := ⟨h, upd_same, fun b x e n => by rw [upd_ne n]; exact e⟩
theorem New.get (n : New q u H H') (h : H p = some o) : H' p = some o := n.same _ _ h
theorem sameGet (n : Same H H') (h : H p = some o) : H' p = some o := n _ _ h
theorem Chg.get (c : Chg q a b H H') (h : H p = some o) (ne : p ≠ q) : H' p = some o := c.but _ _ h ne
theorem Chg.getK (c : Chg q a b H H') (h : H p = some o) (ne : (kd o == kd a) = false) : H' p = some o := c.but _ _ h (ne_of h c.was fun z => by
  subst z
  rw [beq_self_eq_true] at ne
  cases ne)
theorem sbutGet (n : SameBut q H H') (h : H p = some o) (ne : p ≠ q) : H' p = some o := n _ _ h ne
theorem keepGet (k : Keep H H') (h : H p = some o) (s : still o) : H' p = some o := k _ _ h s
theorem New.ne (n : New p o H H') (h : H q = some u) : p ≠ q := (ne_of_none h n.free).symm
theorem New.keep (n : New q u H H') : Keep H H' := Keep.of n.same
theorem Chg.keep (c : Chg q a b H H') (s : ¬ still a) : Keep H H' := fun x y e st => c.but x y e (fun z => by
  subst z
  have := c.was.symm.trans e
  cases this
  exact s st)
theorem Chg.keepL {xs : List V} (c : Chg q (.lst xs) b H H') : Keep H H' := c.keep (fun h => h)
theorem Chg.keepD {xs : List (L2.Key × V)} (c : Chg q (.dK xs) b H H') : Keep H H' := c.keep (fun h => h)
theorem Chg.keepE {xs : List (List L2.Key × V)} (c : Chg q (.dT xs) b H H') : Keep H H' := c.keep (fun h => h)
theorem keepStep (k : Keep H' H'') (l : Keep H H') : Keep H H'' := l.trans k
theorem sameStep (k : Same H' H'') (l : Same H H') : Same H H'' := l.trans k
/-- an object of one's own was changed: seen from ahead of its making nothing is -/
theorem Chg.sameOwn (c : Chg q a b H' H'') (l : Same H H') (f : H q = none) : Same H H'' := fun x y e => c.but _ _ (l _ _ e) (ne_of_none e f)
theorem butStep (k : Same H' H'') (l : SameBut p H H') : SameBut p H H'' := fun x y e n => k _ _ (l _ _ e n)
theorem Chg.butStep (c : Chg p a b H' H'') (l : SameBut p H H') : SameBut p H H'' := fun x y e n => c.but _ _ (l _ _ e n) n
theorem freeBack (h : H' p = none) (s : Same H H') : H p = none := s.free h
end
section
variable {K : PySem.W.Frag} {σ σ' : St} {H : Hp} {Q : VK}
theorem w_seq {t u : TS} {D : Ends} (h : t { D with nx := u D } σ H) : tSeq t u D σ H := h
theorem w_next {D : Ends} (h : D.nx σ H) : tNext D σ H := h
theorem w_nx {nx : St → Hp → Prop} {rt : V → Hp → Prop} {bk ct : St → Hp → Prop} (h : nx σ H) : Ends.nx ⟨nx, rt, bk, ct⟩ σ H := h
theorem w_rt {nx : St → Hp → Prop} {rt : V → Hp → Prop} {bk ct : St → Hp → Prop} {v : V} (h : rt v H) : Ends.rt ⟨nx, rt, bk, ct⟩ v H := h
theorem w_bk {nx : St → Hp → Prop} {rt : V → Hp → Prop} {bk ct : St → Hp → Prop} (h : bk σ H) : Ends.bk ⟨nx, rt, bk, ct⟩ σ H := h
theorem w_ct {nx : St → Hp → Prop} {rt : V → Hp → Prop} {bk ct : St → Hp → Prop} (h : ct σ H) : Ends.ct ⟨nx, rt, bk, ct⟩ σ H := h
theorem w_break {D : Ends} (h : D.bk σ H) : tBreak D σ H := h
theorem w_cont {D : Ends} (h : D.ct σ H) : tCont D σ H := h
theorem w_drop {te : TE} {D : Ends} (h : te σ H fun _ H1 => D.nx σ H1) : tDrop te D σ H := h
theorem w_ret {te : TE} {D : Ends} (h : te σ H D.rt) : tRet te D σ H := h
theorem w_retN {D : Ends} (h : D.rt .non H) : tRetN D σ H := h
theorem w_ifS {c : TT} {t u : TS} {D : Ends} (h : c σ H fun b H1 => if b = true then t D σ H1 else u D σ H1) : tIfS c t u D σ H := h
theorem w_if {c : TT} {t u : TE} (h : c σ H fun b H1 => if b = true then t σ H1 Q else u σ H1 Q) : tIf c t u σ H Q := h
theorem w_asg {te : TE} {g : TG} {D : Ends} (h : te σ H fun x H1 => g x σ H1 D.nx) : tAsg te g D σ H := h
theorem w_name {i : Nat} {v : V} {Q : St → Hp → Prop} (h : ∀ σ', σ.set i (some v) = σ' → Q σ' H) : gName i v σ H Q := h _ rfl
theorem w_var {i : Nat} {v : V} (e : σ[i]? = some (some v)) (h : Q v H) : tVar i σ H Q := ⟨v, e, h⟩
theorem w_C {v : V} (h : Q v H) : tC v σ H Q := h
theorem w_op {r : R2} {ta tb : TE} (h : ta σ H fun x H1 => tb σ H1 fun y H2 => r x y H2 Q) : tOp r ta tb σ H Q := h
theorem w_un {r : V → Hp → VK → Prop} {ta : TE} (h : ta σ H fun x H1 => r x H1 Q) : tUn r ta σ H Q := h
theorem w_rI0 {g : Int → Int → V} {i j : Int} (h : Q (g i j) H) : rI0 g (.int i) (.int j) H Q := ⟨i, j, rfl, rfl, h⟩
theorem w_rI {C : Int → Int → Prop} {g : Int → Int → V} {i j : Int} (c : C i j) (h : Q (g i j) H) : rI C g (.int i) (.int j) H Q := ⟨i, j, rfl, rfl, c, h⟩
theorem w_rU {g : Int → V} {i : Int} (h : Q (g i) H) : rU g (.int i) H Q := ⟨i, rfl, h⟩
theorem dec_vi {i j : Int} : decide (V.int i = V.int j) = decide (i = j) := by simp
theorem dec_vs {i j : Str} : decide (V.str i = V.str j) = decide (i = j) := by simp
theorem w_rEqI {i j : Int} (h : Q (.bl (decide (i = j))) H) : rEq (.int i) (.int j) H Q := ⟨rfl, by rw [dec_vi]; exact h⟩
theorem w_rNeI {i j : Int} (h : Q (.bl (!decide (i = j))) H) : rNe (.int i) (.int j) H Q := ⟨rfl, by rw [dec_vi]; exact h⟩
theorem w_rEqS {i j : Str} (h : Q (.bl (decide (i = j))) H) : rEq (.str i) (.str j) H Q := ⟨rfl, by rw [dec_vs]; exact h⟩
theorem w_rNeS {i j : Str} (h : Q (.bl (!decide (i = j))) H) : rNe (.str i) (.str j) H Q := ⟨rfl, by rw [dec_vs]; exact h⟩
theorem w_tB {t : TE} {Q : Bool → Hp → Prop} (h : t σ H fun x H1 => ∃ c, x = .bl c ∧ Q c H1) : tB t σ H Q := h
theorem w_test {t : TE} {Q : Bool → Hp → Prop} (h : t σ H fun x H1 => ∃ c, x = .bl c ∧ Q c H1) : tTest t σ H Q := h
theorem w_bl {b : Bool} {Q : Bool → Hp → Prop} (h : Q b H) : ∃ c, V.bl b = .bl c ∧ Q c H := ⟨b, rfl, h⟩
theorem w_blB {b : Bool} {P : Bool → Prop} (h : P b) : ∃ c, V.bl b = .bl c ∧ P c := ⟨b, rfl, h⟩
theorem w_and {t u : TT} {Q : Bool → Hp → Prop} (h : t σ H fun c H1 => if c = true then u σ H1 Q else Q false H1) : tAnd t u σ H Q := h
theorem w_or {t u : TT} {Q : Bool → Hp → Prop} (h : t σ H fun c H1 => if c = true then Q true H1 else u σ H1 Q) : tOr t u σ H Q := h
theorem w_not {t : TT} {Q : Bool → Hp → Prop} (h : t σ H fun c H1 => Q (!c) H1) : tNot t σ H Q := h
theorem w_andV {ta tb : TE} (h : ta σ H fun x H1 => ∃ c, x = .bl c ∧ if c = true then tb σ H1 Q else Q (.bl false) H1) : tAndV ta tb σ H Q := h
theorem w_orV {ta tb : TE} (h : ta σ H fun x H1 => ∃ c, x = .bl c ∧ if c = true then Q (.bl true) H1 else tb σ H1 Q) : tOrV ta tb σ H Q := h
theorem w_notV {ta : TE} (h : ta σ H fun x H1 => ∃ c, x = .bl c ∧ Q (.bl (!c)) H1) : tNotV ta σ H Q := h
theorem w_isN {ta : TE} (h : ta σ H fun x H1 => Q (.bl (decide (x = .non))) H1) : tIsN ta σ H Q := h
theorem w_notN {ta : TE} (h : ta σ H fun x H1 => Q (.bl (!decide (x = .non))) H1) : tNotN ta σ H Q := h
theorem w_nil {Q : List V → Hp → Prop} (h : Q [] H) : tNil σ H Q := h
theorem w_cons {ta : TE} {tr : TA} {Q : List V → Hp → Prop} (h : ta σ H fun x H1 => tr σ H1 fun xs H2 => Q (x :: xs) H2) : tCons ta tr σ H Q := h
theorem w_cb {r : List V → Hp → VK → Prop} {t : TA} (h : t σ H fun vs H1 => r vs H1 Q) : tCB r t σ H Q := h
theorem w_call {sp : Sp} {dvs : List V} {E : XK} {t : TA} (h : t σ H fun vs H1 => sp (vs ++ dvs) H1 Q E) : tCall sp dvs E t σ H Q := h
def kNew (f : List V → HO) (xs : List V) (H : Hp) (Q : VK) : Prop := xs.length ≤ sizeLine ∧ ∀ p, H p = none → Q (.ref p) (upd H p (f xs))
theorem w_tup {t : TA} (h : t σ H fun xs H1 => kNew .tup xs H1 Q) : tTup t σ H Q := h
theorem w_lst {t : TA} (h : t σ H fun xs H1 => kNew .lst xs H1 Q) : tLst t σ H Q := h
theorem w_newT {xs : List V} (hl : xs.length ≤ sizeLine) (h : ∀ p H', New p (.tup xs) H H' → Q (.ref p) H') : kNew .tup xs H Q := ⟨hl, fun p hp => h p _ (New.mk' hp)⟩
theorem w_newL {xs : List V} (hl : xs.length ≤ sizeLine) (h : ∀ p H', New p (.lst xs) H H' → Q (.ref p) H') : kNew .lst xs H Q := ⟨hl, fun p hp => h p _ (New.mk' hp)⟩
theorem w_ixT {p : Addr} {xs : List V} {i : Int} {v : V} (a : H p = some (.tup xs)) (e : atI xs i = some v) (h : Q v H) : rIxT K (.ref p) (.int i) H Q := ⟨p, xs, i, v, rfl, rfl, SqT.of a, e, h⟩
theorem w_ixL {p : Addr} {xs : List V} {i : Int} {v : V} (a : H p = some (.lst xs)) (e : atI xs i = some v) (h : Q v H) : rIxL K (.ref p) (.int i) H Q := ⟨p, xs, i, v, rfl, rfl, SqL.of a, e, h⟩
theorem w_lenL {p : Addr} {xs : List V} {P : List V → Prop} (a : H p = some (.lst xs)) (h : P xs) : ∃ p' ys, [V.ref p] = [.ref p'] ∧ (SqL K H p' ys ∨ SqT K H p' ys) ∧ P ys := ⟨p, xs, rfl, .inl (SqL.of a), h⟩
theorem w_lenT {p : Addr} {xs : List V} {P : List V → Prop} (a : H p = some (.tup xs)) (h : P xs) : ∃ p' ys, [V.ref p] = [.ref p'] ∧ (SqL K H p' ys ∨ SqT K H p' ys) ∧ P ys := ⟨p, xs, rfl, .inr (SqT.of a), h⟩
theorem w_bm {T : String} {r : V → List V → Hp → VK → Prop} {to : TE} {t : TA} (h : to σ H fun x H1 => tyV K T x H1 ∧ t σ H1 fun xs H2 => r x xs H2 Q) : tBM K T r to t σ H Q := h
theorem w_bm0 {T : String} {r : V → List V → Hp → VK → Prop} {to : TE} (h : to σ H fun x H1 => tyV K T x H1 ∧ r x [] H1 Q) : tBM0 K T r to σ H Q := h
theorem w_tyL {p : Addr} {xs : List V} {B : Prop} (a : H p = some (.lst xs)) (h : B) : tyV K "list" (.ref p) H ∧ B := ⟨.inl ⟨rfl, _, SqL.of a⟩, h⟩
theorem w_append {l : Addr} {xs : List V} {y : V} (a : H l = some (.lst xs)) (sz : xs.length < sizeLine) (h : ∀ H', Chg l (.lst xs) (.lst (xs ++ [y])) H H' → Q .non H') : rAppend (.ref l) [y] H Q := ⟨l, xs, y, rfl, rfl, a, sz, h _ (Chg.mk' a)⟩
theorem w_setL {l : Addr} {xs : List V} {k : Int} {j : Nat} {v : V} {Q : Hp → Prop} (a : H l = some (.lst xs)) (e : ixN xs.length k = some j) (h : ∀ H', Chg l (.lst xs) (.lst (xs.set j v)) H H' → Q H') : rSetL (.ref l) (.int k) v H Q := ⟨l, xs, k, j, rfl, rfl, a, e, h _ (Chg.mk' a)⟩
theorem w_fld {ta : TE} {f : Str} (h : ta σ H fun x H1 => ∃ a C dx fs v, x = .ref a ∧ H1 a = some (.ins C dx fs) ∧ Cls K C ∧ NoAttr K C f ∧ fs.lookup f = some v ∧ Q v H1) : tFld K ta f σ H Q := h
theorem w_fld1 {a C dx : Addr} {fs : List (Str × V)} {v : V} {f : Str} (i : H a = some (.ins C dx fs)) (c : Cls K C) (n : NoAttr K C f) (l : fs.lookup f = some v) (h : Q v H) : ∃ a' C' dx' fs' v', V.ref a = .ref a' ∧ H a' = some (.ins C' dx' fs') ∧ Cls K C' ∧ NoAttr K C' f ∧ fs'.lookup f = some v' ∧ Q v' H := ⟨a, C, dx, fs, v, rfl, i, c, n, l, h⟩
theorem w_par {i j : Nat} {ta : TA} {D : Ends} (h : ta σ H fun vs H1 => ∃ v w, vs = [v, w] ∧ D.nx ((σ.set i (some v)).set j (some w)) H1) : tPar i j ta D σ H := h
theorem w_par1 {v w : V} {P : V → V → Prop} (h : P v w) : ∃ v' w', [v, w] = [v', w'] ∧ P v' w' := ⟨v, w, rfl, h⟩
theorem w_aug {i : Nat} {x : V} {te : TE} {ti : TIp} {D : Ends} (e : σ[i]? = some (some x)) (h : te σ H fun y H1 => ti x y H1 fun z H2 => D.nx (σ.set i (some z)) H2) : tAug i te ti D σ H := ⟨x, e, h⟩
theorem w_forT {a : Addr} {xs : List V} {P : Addr → Prop} (t : H a = some (.tup xs)) (h : P a) : ∃ a', V.ref a = .ref a' ∧ (∃ xs, SqT K H a' xs) ∧ P a' := ⟨a, rfl, ⟨xs, SqT.of t⟩, h⟩
theorem w_forL {a : Addr} {xs : List V} {P : Addr → Prop} (t : H a = some (.lst xs)) (h : P a) : ∃ a', V.ref a = .ref a' ∧ (∃ xs, SqL K H a' xs) ∧ P a' := ⟨a, rfl, ⟨xs, SqL.of t⟩, h⟩
theorem w_inT {x : V} {p : Addr} {xs : List V} (a : H p = some (.tup xs)) (f : flatV x = true) (g : xs.all flatV = true) (h : Q (.bl (inV x xs)) H) : rIn K false x (.ref p) H Q := ⟨p, xs, rfl, .inr (SqT.of a), f, g, h⟩
theorem w_inL {x : V} {p : Addr} {xs : List V} (a : H p = some (.lst xs)) (f : flatV x = true) (g : xs.all flatV = true) (h : Q (.bl (inV x xs)) H) : rIn K false x (.ref p) H Q := ⟨p, xs, rfl, .inl (SqL.of a), f, g, h⟩
theorem w_iTup {tl : TE} {R : It → Hp → Prop} (h : tl σ H fun x H1 => ∃ a, x = .ref a ∧ (∃ xs, SqT K H1 a xs) ∧ R (Itt K a) H1) : iTup K tl σ H R := h
theorem w_iList {tl : TE} {R : It → Hp → Prop} (h : tl σ H fun x H1 => ∃ a, x = .ref a ∧ (∃ xs, SqL K H1 a xs) ∧ R (Itl K a) H1) : iList K tl σ H R := h
end
/-- a loop over what is walked -/
def kFor (J : It) (g : TG) (tb : TS) (D : Ends) (σ : St) (H : Hp) : Prop := tFor (fun _ H1 R => R J H1) g tb D σ H
theorem w_for {wi : TI} {g : TG} {tb : TS} {D : Ends} {σ : St} {H : Hp} (h : wi σ H fun J H1 => kFor J g tb D σ H1) : tFor wi g tb D σ H := h
section
variable {K : PySem.W.Frag} {a : Addr} {xs : List V} {g : TG} {tb : TS} {D : Ends} {σ : St} {H : Hp}
theorem k_forT (xs : List V) (Pv : Nat → St → Hp → Prop) (h0 : Pv 0 σ H) (hl : ∀ i σ H, i ≤ xs.length → Pv i σ H → SqT K H a xs)
    (hs : ∀ i x σ H, xs[i]? = some x → Pv i σ H → g x σ H fun σ2 H2 => tb { D with nx := Pv (i + 1), ct := Pv (i + 1), bk := D.nx } σ2 H2) (hd : ∀ σ H, Pv xs.length σ H → D.nx σ H) : kFor (Itt K a) g tb D σ H := for_tup Pv h0 hl hs hd
theorem k_forL (xs : List V) (Pv : Nat → St → Hp → Prop) (h0 : Pv 0 σ H) (hl : ∀ i σ H, i ≤ xs.length → Pv i σ H → SqL K H a xs)
    (hs : ∀ i x σ H, xs[i]? = some x → Pv i σ H → g x σ H fun σ2 H2 => tb { D with nx := Pv (i + 1), ct := Pv (i + 1), bk := D.nx } σ2 H2) (hd : ∀ σ H, Pv xs.length σ H → D.nx σ H) : kFor (Itl K a) g tb D σ H := for_list Pv h0 hl hs hd
theorem k_forR {lo : Int} {n : Nat} (Pv : Nat → St → Hp → Prop) (h0 : Pv 0 σ H)
    (hs : ∀ i σ H, i < n → Pv i σ H → g (.int (lo + i)) σ H fun σ2 H2 => tb { D with nx := Pv (i + 1), ct := Pv (i + 1), bk := D.nx } σ2 H2) (hd : ∀ σ H, Pv n σ H → D.nx σ H) : kFor (Itr lo n) g tb D σ H := for_range Pv h0 hs hd
end
section
variable {K : PySem.W.Frag} {σ σ' : St} {H : Hp} {Q : VK}
theorem pg_tupK {X : Cx} {es : List Expr} {k : Nat} {t : TGs} {n : Nat} {pos : Pos} (hK : X.K = K) (hc : X.calm = true) (h : PGs X es t)
    (hn : (assignEach es X.env).length = n := by rfl) (hst : (assignEach es X.env).findIdx? (·.1) = none := by rfl) : PG X (.Tuple es k pos) (gTup K n t) := by
  subst hK
  exact pg_tup hc h hn hst
theorem w_gTup {n : Nat} {t : TGs} {p : Addr} {xs : List V} {Q : St → Hp → Prop} (a : H p = some (.tup xs)) (e : xs.length = n) (h : t xs σ H Q) : gTup K n t (.ref p) σ H Q := ⟨p, xs, rfl, SqT.of a, e, h⟩
theorem w_gCons {t : TG} {u : TGs} {v : V} {r : List V} {Q : St → Hp → Prop} (h : t v σ H fun σ' H' => u r σ' H' Q) : gCons t u (v :: r) σ H Q := ⟨v, r, rfl, h⟩
theorem w_gNil {Q : St → Hp → Prop} (h : Q σ H) : gNil [] σ H Q := ⟨rfl, h⟩
/-- a list made of what is walked -/
def kLc (J : It) (g : TG) (tt : TT) (te : TE) (vs : List Nat) (σ : St) (H : Hp) (Q : VK) : Prop := tLc (fun _ H1 R => R J H1) g tt te vs σ H Q
theorem w_lc {wi : TI} {g : TG} {tt : TT} {te : TE} {vs : List Nat} (h : wi σ H fun J H1 => kLc J g tt te vs σ H1 Q) : tLc wi g tt te vs σ H Q := h
/-- the item that is made goes to the list -/
def kAcc (D : Addr) (y : V) (H : Hp) (P : Hp → Prop) : Prop := ∃ acc, H D = some (.lst acc) ∧ acc.length < sizeLine ∧ P (upd H D (.lst (acc ++ [y])))
theorem w_acc {D : Addr} {y : V} {P : Hp → Prop} {acc : List V} (a : H D = some (.lst acc)) (sz : acc.length < sizeLine) (h : ∀ H', Chg D (.lst acc) (.lst (acc ++ [y])) H H' → P H') : kAcc D y H P := ⟨acc, a, sz, h _ (Chg.mk' a)⟩
abbrev kTurn (g : TG) (tt : TT) (te : TE) (vs : List Nat) (σ : St) (D : Addr) (x : V) (H : Hp) (P : Hp → Prop) : Prop :=
  g x (wipe σ vs) H fun σ2 H2 => wipe σ2 vs = wipe σ vs ∧ tt σ2 H2 fun b H3 => if b = true then te σ2 H3 fun y H4 => kAcc D y H4 P else P H3
theorem k_lcR {lo : Int} {n : Nat} {g : TG} {tt : TT} {te : TE} {vs : List Nat} (Pv : Addr → Nat → Hp → Prop) (h0 : ∀ D H', New D (.lst []) H H' → Pv D 0 H')
    (hs : ∀ D, H D = none → ∀ i H2, i < n → Pv D i H2 → kTurn g tt te vs σ D (.int (lo + i)) H2 (Pv D (i + 1))) (hd : ∀ D, H D = none → ∀ H2, Pv D n H2 → Q (.ref D) H2) : kLc (Itr lo n) g tt te vs σ H Q :=
  fun D hD => lc_range (Pv D) (h0 D _ (New.mk' hD)) (hs D hD) (hd D hD)
theorem k_lcL {a : Addr} (xs : List V) {g : TG} {tt : TT} {te : TE} {vs : List Nat} (Pv : Addr → Nat → Hp → Prop) (h0 : ∀ D H', New D (.lst []) H H' → Pv D 0 H') (hl : ∀ D i H, i ≤ xs.length → Pv D i H → SqL K H a xs)
    (hs : ∀ D, H D = none → ∀ i x H2, xs[i]? = some x → Pv D i H2 → kTurn g tt te vs σ D x H2 (Pv D (i + 1))) (hd : ∀ D, H D = none → ∀ H2, Pv D xs.length H2 → Q (.ref D) H2) : kLc (Itl K a) g tt te vs σ H Q :=
  fun D hD => lc_list (Pv D) (h0 D _ (New.mk' hD)) (hl D) (hs D hD) (hd D hD)
theorem k_lcT {a : Addr} (xs : List V) {g : TG} {tt : TT} {te : TE} {vs : List Nat} (Pv : Addr → Nat → Hp → Prop) (h0 : ∀ D H', New D (.lst []) H H' → Pv D 0 H') (hl : ∀ D i H, i ≤ xs.length → Pv D i H → SqT K H a xs)
    (hs : ∀ D, H D = none → ∀ i x H2, xs[i]? = some x → Pv D i H2 → kTurn g tt te vs σ D x H2 (Pv D (i + 1))) (hd : ∀ D, H D = none → ∀ H2, Pv D xs.length H2 → Q (.ref D) H2) : kLc (Itt K a) g tt te vs σ H Q :=
  fun D hD => lc_tup (Pv D) (h0 D _ (New.mk' hD)) (hl D) (hs D hD) (hd D hD)
theorem w_wipe {a b : St} {vs : List Nat} {B : Prop} (e : wipe a vs = wipe b vs) (h : B) : wipe a vs = wipe b vs ∧ B := ⟨e, h⟩
theorem w_yes {Q : Bool → Hp → Prop} (h : Q true H) : tYes σ H Q := h
theorem w_rng1 {ta : TA} {R : It → Hp → Prop} (h : ta σ H fun vs H1 => ∃ j : Int, vs = [.int j] ∧ -(2 ^ 62) ≤ j ∧ j < 2 ^ 62 ∧ R (Itr 0 j.toNat) H1) : iRng1 ta σ H R := h
theorem w_rng2 {ta : TA} {R : It → Hp → Prop} (h : ta σ H fun vs H1 => ∃ i j : Int, vs = [.int i, .int j] ∧ (-(2 ^ 62) ≤ i ∧ i < 2 ^ 62 ∧ -(2 ^ 62) ≤ j ∧ j < 2 ^ 62) ∧ R (Itr i (j - i).toNat) H1) : iRng2 ta σ H R := h
theorem w_rng1a {a : Int} {P : Int → Prop} (h1 : -(2 ^ 62) ≤ a) (h2 : a < 2 ^ 62) (h : P a) : ∃ j : Int, [V.int a] = [.int j] ∧ -(2 ^ 62) ≤ j ∧ j < 2 ^ 62 ∧ P j := ⟨a, rfl, h1, h2, h⟩
theorem w_rng2a {a b : Int} {P : Int → Int → Prop} (h1 : -(2 ^ 62) ≤ a) (h2 : a < 2 ^ 62) (h3 : -(2 ^ 62) ≤ b) (h4 : b < 2 ^ 62) (h : P a b) : ∃ i j : Int, [V.int a, V.int b] = [.int i, .int j] ∧ (-(2 ^ 62) ≤ i ∧ i < 2 ^ 62 ∧ -(2 ^ 62) ≤ j ∧ j < 2 ^ 62) ∧ P i j := ⟨a, b, rfl, ⟨h1, h2, h3, h4⟩, h⟩
theorem w_cat {l b : Addr} {xs zs : List V} (h1 : H l = some (.lst xs)) (h2 : H b = some (.lst zs)) (sz : xs.length + zs.length ≤ sizeLine) (h : ∀ p H', New p (.lst (xs ++ zs)) H H' → Q (.ref p) H') : rCat (.ref l) (.ref b) H Q := ⟨l, b, xs, zs, rfl, rfl, h1, h2, sz, fun p hp => h p _ (New.mk' hp)⟩
theorem w_rep {l : Addr} {xs : List V} {k : Int} (h1 : H l = some (.lst xs)) (ha : -(2 ^ 63) ≤ k) (hb : k < 2 ^ 63) (sz : xs.length * k.toNat ≤ sizeLine) (h : ∀ p H', New p (.lst (List.replicate k.toNat xs).flatten) H H' → Q (.ref p) H') : rRep (.ref l) (.int k) H Q := ⟨l, k, xs, rfl, rfl, h1, ha, hb, sz, fun p hp => h p _ (New.mk' hp)⟩
end
section
variable {X : Cx} {K : PySem.W.Frag}
theorem cr_allK (h : X.K = K) (hc : X.calm = true) : CallR X (.builtin "all") (rAll K) := by
  subst h
  exact cr_all hc
theorem pi_zipAK {e e2 : Expr} {ta : TA} {p pos tpos : Pos} {elts : List Expr} {kk : Nat} (h : X.K = K) (hg : Gl X "zip") (hm : X.mg "zip" = none) (ha : PA X [e, e2] ta)
    (hs : starEach [e, e2] X.env = (false, eval e X.env) :: starEach [e2] X.env := by rfl) (hpl : (backTo pos (starEach [e2] X.env)).any (·.1) = false := by rfl) :
    PI X (.Tuple elts kk tpos) (.Call (.Name "zip" p) [e, e2] [] pos) (RZ.iZipA K ta) := by
  subst h
  exact RZ.pi_zipA hg hm ha hs hpl
end
theorem iteNF {c A B : Prop} [Decidable c] (hc : c) (h : B) : if (!decide c) = true then A else B := by
  rw [decide_eq_true hc]
  exact h
theorem iteNT {c A B : Prop} [Decidable c] (hc : ¬ c) (h : A) : if (!decide c) = true then A else B := by
  rw [decide_eq_false hc]
  exact h
theorem newOf {H H' : Hp} {p : Addr} {o : HO} (h : H p = none) (e : upd H p o = H') : New p o H H' := by
  subst e
  exact New.mk' h
section
variable {K : PySem.W.Frag} {σ σ' : St} {H : Hp} {Q : VK}
theorem k_lcZ {a b : Addr} (xs ys : List V) {g : TG} {tt : TT} {te : TE} {vs : List Nat} (hl : xs.length = ys.length) (Pv : Addr → Nat → Hp → Prop) (h0 : ∀ D H', New D (.lst []) H H' → Pv D 0 H') (hq : ∀ D i H, Pv D i H → SqT K H a xs ∧ SqT K H b ys)
    (hs : ∀ D, H D = none → ∀ i x y T H2 H3, xs[i]? = some x → ys[i]? = some y → Pv D i H2 → New T (.tup [x, y]) H2 H3 → kTurn g tt te vs σ D (.ref T) H3 (Pv D (i + 1))) (hd : ∀ D, H D = none → ∀ H2, Pv D xs.length H2 → Q (.ref D) H2) : kLc (RZ.ItzT K a b) g tt te vs σ H Q := by
  intro D hD
  refine ⟨fun i m H2 => m = xs.length - i ∧ i ≤ xs.length ∧ Pv D i H2, ⟨xs.length, by simp, Nat.zero_le _, h0 D _ (New.mk' hD)⟩, ?_⟩
  rintro i m H2 ⟨rfl, hi, p⟩
  obtain ⟨q1, q2⟩ := hq D i H2 p
  by_cases hlt : i < xs.length
  · refine .inr ⟨⟨xs, ys, xs[i], ys[i], q1, q2, by simp [hlt], by simp⟩, Pv D (i + 1), fun H' p' => ⟨xs.length - (i + 1), by omega, rfl, hlt, p'⟩, fun v H' y => ?_⟩
    obtain ⟨T, x, y', rfl, hT, rfl, hx, hy⟩ := y
    exact hs D hD i x y' T H2 _ (hx _ q1) (hy _ q2) p (New.mk' hT)
  · have e : i = xs.length := by omega
    subst e
    exact .inl ⟨⟨xs, ys, q1, q2, .inl (Nat.le_refl _)⟩, hd D hD H2 p⟩
theorem w_zipA {ta : TA} {R : It → Hp → Prop} (h : ta σ H fun vs H1 => ∃ a b xs ys, vs = [.ref a, .ref b] ∧ ((SqL K H1 a xs ∧ SqL K H1 b ys ∧ R (Itz K a b) H1) ∨ (SqT K H1 a xs ∧ SqT K H1 b ys ∧ R (RZ.ItzT K a b) H1))) : RZ.iZipA K ta σ H R := h
theorem w_zipT {a b : Addr} {xs ys : List V} {R : Addr → Addr → Prop} {P : Addr → Addr → Prop} (h1 : H a = some (.tup xs)) (h2 : H b = some (.tup ys)) (h : P a b) : ∃ a' b' xs' ys', [V.ref a, V.ref b] = [.ref a', .ref b'] ∧ ((SqL K H a' xs' ∧ SqL K H b' ys' ∧ R a' b') ∨ (SqT K H a' xs' ∧ SqT K H b' ys' ∧ P a' b')) :=
  ⟨a, b, xs, ys, rfl, .inr ⟨SqT.of h1, SqT.of h2, h⟩⟩
theorem w_meth {C : Addr} {m : Str} {sp : Sp} {dvs : List V} {E : XK} {ta : TE} {t : TA} (h : ta σ H fun x H1 => ∃ a dx fs, x = .ref a ∧ H1 a = some (.ins C dx fs) ∧ fs.lookup m = none ∧ t σ H1 fun vs H2 => sp (x :: (vs ++ dvs)) H2 Q E) : tMeth C m sp dvs E ta t σ H Q := h
theorem w_meth1 {p C dx : Addr} {fs : List (Str × V)} {m : Str} {B : Prop} (i : H p = some (.ins C dx fs)) (l : fs.lookup m = none) (h : B) : ∃ a' dx' fs', V.ref p = .ref a' ∧ H a' = some (.ins C dx' fs') ∧ fs'.lookup m = none ∧ B := ⟨p, dx, fs, rfl, i, l, h⟩
theorem w_tupOfL {p : Addr} {xs : List V} {P : List V → Prop} {R : Addr → Prop} (a : H p = some (.lst xs)) (h : P xs) : ∃ p' ys, [V.ref p] = [.ref p'] ∧ ((SqL K H p' ys ∧ P ys) ∨ (SqT K H p' ys ∧ R p')) := ⟨p, xs, rfl, .inl ⟨SqL.of a, h⟩⟩
theorem w_tupOfT {p : Addr} {xs : List V} {P : List V → Prop} {R : Addr → Prop} (a : H p = some (.tup xs)) (h : R p) : ∃ p' ys, [V.ref p] = [.ref p'] ∧ ((SqL K H p' ys ∧ P ys) ∨ (SqT K H p' ys ∧ R p')) := ⟨p, xs, rfl, .inr ⟨SqT.of a, h⟩⟩
theorem w_intB {b : Bool} {P : Int → Prop} {R : Bool → Prop} (h : R b) : (∃ i, [V.bl b] = [.int i] ∧ P i) ∨ ∃ k, [V.bl b] = [.bl k] ∧ R k := .inr ⟨b, rfl, h⟩
theorem w_intI {i : Int} {P : Int → Prop} {R : Bool → Prop} (h : P i) : (∃ i', [V.int i] = [.int i'] ∧ P i') ∨ ∃ k, [V.int i] = [.bl k] ∧ R k := .inl ⟨i, rfl, h⟩
theorem w_sl {r : V → Option Int → Option Int → Hp → VK → Prop} {te : TE} {tl th : TO} (h : te σ H fun x H1 => tl σ H1 fun l H2 => th σ H2 fun u H3 => r x l u H3 Q) : tSl r te tl th σ H Q := h
theorem w_part {t : TE} {Q : Option Int → Hp → Prop} (h : t σ H fun x H1 => ∃ i, x = .int i ∧ Q (some i) H1) : tPart t σ H Q := h
theorem w_part1 {i : Int} {P : Int → Prop} (h : P i) : ∃ i', V.int i = .int i' ∧ P i' := ⟨i, rfl, h⟩
theorem w_nopart {Q : Option Int → Hp → Prop} (h : Q none H) : tNoPart σ H Q := h
theorem w_slL {a : Addr} {xs : List V} {lo hi : Option Int} (i : H a = some (.lst xs)) (h : ∀ p H', New p (.lst (cutV xs lo hi)) H H' → Q (.ref p) H') : rSlL K (.ref a) lo hi H Q := ⟨a, xs, rfl, SqL.of i, fun p hp => h p _ (New.mk' hp)⟩
theorem w_isi {x : V} {n t : String} {b : Bool} (ty : TyX K H x (.type t)) (k : kitB t n = some b) (h : Q (.bl b) H) : rIsi K [x, .ty n] H Q := ⟨x, .ty n, _, _, b, rfl, .ty n, ty, kit_ty k, h⟩
theorem w_all {a : Addr} {bs : List Bool} (i : H a = some (.lst (bs.map V.bl))) (h : Q (.bl (bs.all id)) H) : rAll K [.ref a] H Q := ⟨a, bs, rfl, SqL.of i, h⟩
theorem w_gSub {to ti : TE} {t : TSet} {v : V} {Q : St → Hp → Prop} (h : to σ H fun o H1 => ti σ H1 fun i H2 => t o i v H2 fun H3 => Q σ H3) : gSub to ti t v σ H Q := h
theorem w_sfld {ta tv : TE} {f : Str} {D : Ends} (h : tv σ H fun y H1 => ta σ H1 fun x H2 => ∃ a C dx fs, x = .ref a ∧ H2 a = some (.ins C dx fs) ∧ Cls K C ∧ NoAttr K C f ∧ fs.length < 1000 ∧ D.nx σ (upd H2 a (.ins C dx (putF f y fs)))) : sFld K ta tv f D σ H := h
end
local macro_rules | `(tactic| walk_at "ne") => `(tactic| first
  | assumption
  | exact Ne.symm (by assumption)
  | exact New.ne (by assumption) (by walk_at "look1")
  | exact Ne.symm (New.ne (by assumption) (by walk_at "look1")))
local macro_rules | `(tactic| walk_at "ne1") => `(tactic| first
  | assumption
  | exact Ne.symm (by assumption)
  | exact New.ne (by assumption) (by walk_at "look2")
  | exact Ne.symm (New.ne (by assumption) (by walk_at "look2")))
local macro_rules | `(tactic| walk_at "ne2") => `(tactic| first
  | assumption
  | exact Ne.symm (by assumption)
  | exact New.ne (by assumption) (by walk_at "look3")
  | exact Ne.symm (New.ne (by assumption) (by walk_at "look3")))
local macro_rules | `(tactic| walk_at "ne3") => `(tactic| first
  | assumption
  | exact Ne.symm (by assumption)
  | exact New.ne (by assumption) (by walk_at "look4")
  | exact Ne.symm (New.ne (by assumption) (by walk_at "look4")))
local macro_rules | `(tactic| walk_at "ne4") => `(tactic| first
  | assumption
  | exact Ne.symm (by assumption)
  | exact New.ne (by assumption) (by walk_at "look5")
  | exact Ne.symm (New.ne (by assumption) (by walk_at "look5")))
local macro_rules | `(tactic| walk_at "ne5") => `(tactic| first
  | assumption
  | exact Ne.symm (by assumption)
  | exact New.ne (by assumption) (by walk_at "look6")
  | exact Ne.symm (New.ne (by assumption) (by walk_at "look6")))
local macro_rules | `(tactic| walk_at "ne6") => `(tactic| first
  | assumption
  | exact Ne.symm (by assumption)
  | exact New.ne (by assumption) (by walk_at "look7")
  | exact Ne.symm (New.ne (by assumption) (by walk_at "look7")))
local macro_rules | `(tactic| walk_at "ne7") => `(tactic| first
  | assumption
  | exact Ne.symm (by assumption)
  | exact New.ne (by assumption) (by walk_at "look8")
  | exact Ne.symm (New.ne (by assumption) (by walk_at "look8")))
local macro_rules | `(tactic| walk_at "ne8") => `(tactic| first
  | assumption
  | exact Ne.symm (by assumption)
  | exact New.ne (by assumption) (by walk_at "look9")
  | exact Ne.symm (New.ne (by assumption) (by walk_at "look9")))
local macro_rules | `(tactic| walk_at "ne9") => `(tactic| first
  | assumption
  | exact Ne.symm (by assumption)
  | exact New.ne (by assumption) (by walk_at "look10")
  | exact Ne.symm (New.ne (by assumption) (by walk_at "look10")))
local macro_rules | `(tactic| walk_at "ne10") => `(tactic| first
  | assumption
  | exact Ne.symm (by assumption)
  | exact New.ne (by assumption) (by walk_at "look11")
  | exact Ne.symm (New.ne (by assumption) (by walk_at "look11")))
local macro_rules | `(tactic| walk_at "ne11") => `(tactic| first
  | assumption
  | exact Ne.symm (by assumption)
  | exact New.ne (by assumption) (by walk_at "look12")
  | exact Ne.symm (New.ne (by assumption) (by walk_at "look12")))
local macro_rules | `(tactic| walk_at "ne12") => `(tactic| first
  | assumption
  | exact Ne.symm (by assumption)
  | exact New.ne (by assumption) (by walk_at "look13")
  | exact Ne.symm (New.ne (by assumption) (by walk_at "look13")))
local macro_rules | `(tactic| walk_at "ne13") => `(tactic| first
  | assumption
  | exact Ne.symm (by assumption)
  | exact New.ne (by assumption) (by walk_at "look14")
  | exact Ne.symm (New.ne (by assumption) (by walk_at "look14")))
local macro_rules | `(tactic| walk_at "ne14") => `(tactic| first
  | assumption
  | exact Ne.symm (by assumption)
  | exact New.ne (by assumption) (by walk_at "look15")
  | exact Ne.symm (New.ne (by assumption) (by walk_at "look15")))
local macro_rules | `(tactic| walk_at "ne15") => `(tactic| first
  | assumption
  | exact Ne.symm (by assumption)
  | exact New.ne (by assumption) (by walk_at "look16")
  | exact Ne.symm (New.ne (by assumption) (by walk_at "look16")))
local macro_rules | `(tactic| walk_at "ne16") => `(tactic| first
  | assumption
  | exact Ne.symm (by assumption)
  | exact New.ne (by assumption) (by walk_at "look17")
  | exact Ne.symm (New.ne (by assumption) (by walk_at "look17")))
local macro_rules | `(tactic| walk_at "ne17") => `(tactic| first
  | assumption
  | exact Ne.symm (by assumption)
  | exact New.ne (by assumption) (by walk_at "look18")
  | exact Ne.symm (New.ne (by assumption) (by walk_at "look18")))
local macro_rules | `(tactic| walk_at "ne18") => `(tactic| first
  | assumption
  | exact Ne.symm (by assumption)
  | exact New.ne (by assumption) (by walk_at "look19")
  | exact Ne.symm (New.ne (by assumption) (by walk_at "look19")))
local macro_rules | `(tactic| walk_at "ne19") => `(tactic| first
  | assumption
  | exact Ne.symm (by assumption)
  | exact New.ne (by assumption) (by walk_at "look20")
  | exact Ne.symm (New.ne (by assumption) (by walk_at "look20")))
local macro_rules | `(tactic| walk_at "ne20") => `(tactic| first
  | assumption
  | exact Ne.symm (by assumption)
  | exact New.ne (by assumption) (by walk_at "look21")
  | exact Ne.symm (New.ne (by assumption) (by walk_at "look21")))
local macro_rules | `(tactic| walk_at "ne21") => `(tactic| first
  | assumption
  | exact Ne.symm (by assumption)
  | exact New.ne (by assumption) (by walk_at "look22")
  | exact Ne.symm (New.ne (by assumption) (by walk_at "look22")))
local macro_rules | `(tactic| walk_at "ne22") => `(tactic| first
  | assumption
  | exact Ne.symm (by assumption)
  | exact New.ne (by assumption) (by walk_at "look23")
  | exact Ne.symm (New.ne (by assumption) (by walk_at "look23")))
local macro_rules | `(tactic| walk_at "ne23") => `(tactic| first
  | assumption
  | exact Ne.symm (by assumption)
  | exact New.ne (by assumption) (by walk_at "look24")
  | exact Ne.symm (New.ne (by assumption) (by walk_at "look24")))
local macro_rules | `(tactic| walk_at "ne24") => `(tactic| assumption)
local macro_rules | `(tactic| walk_at "look") => `(tactic| first
  | assumption
  | exact New.at_ (by assumption)
  | exact Chg.at_ (by assumption)
  | exact New.get (by assumption) (by walk_at "look1")
  | exact Chg.getK (by assumption) (by walk_at "look1") (by exact rfl)
  | exact Chg.get (by assumption) (by walk_at "look1") (by walk_at "ne1")
  | exact sameGet (by assumption) (by walk_at "look1")
  | exact sbutGet (by assumption) (by walk_at "look1") (by walk_at "ne1")
  | exact keepGet (by assumption) (by walk_at "look1") trivial)
local macro_rules | `(tactic| walk_at "look1") => `(tactic| first
  | assumption
  | exact New.at_ (by assumption)
  | exact Chg.at_ (by assumption)
  | exact New.get (by assumption) (by walk_at "look2")
  | exact Chg.getK (by assumption) (by walk_at "look2") (by exact rfl)
  | exact Chg.get (by assumption) (by walk_at "look2") (by walk_at "ne2")
  | exact sameGet (by assumption) (by walk_at "look2")
  | exact sbutGet (by assumption) (by walk_at "look2") (by walk_at "ne2")
  | exact keepGet (by assumption) (by walk_at "look2") trivial)
local macro_rules | `(tactic| walk_at "look2") => `(tactic| first
  | assumption
  | exact New.at_ (by assumption)
  | exact Chg.at_ (by assumption)
  | exact New.get (by assumption) (by walk_at "look3")
  | exact Chg.getK (by assumption) (by walk_at "look3") (by exact rfl)
  | exact Chg.get (by assumption) (by walk_at "look3") (by walk_at "ne3")
  | exact sameGet (by assumption) (by walk_at "look3")
  | exact sbutGet (by assumption) (by walk_at "look3") (by walk_at "ne3")
  | exact keepGet (by assumption) (by walk_at "look3") trivial)
local macro_rules | `(tactic| walk_at "look3") => `(tactic| first
  | assumption
  | exact New.at_ (by assumption)
  | exact Chg.at_ (by assumption)
  | exact New.get (by assumption) (by walk_at "look4")
  | exact Chg.getK (by assumption) (by walk_at "look4") (by exact rfl)
  | exact Chg.get (by assumption) (by walk_at "look4") (by walk_at "ne4")
  | exact sameGet (by assumption) (by walk_at "look4")
  | exact sbutGet (by assumption) (by walk_at "look4") (by walk_at "ne4")
  | exact keepGet (by assumption) (by walk_at "look4") trivial)
local macro_rules | `(tactic| walk_at "look4") => `(tactic| first
  | assumption
  | exact New.at_ (by assumption)
  | exact Chg.at_ (by assumption)
  | exact New.get (by assumption) (by walk_at "look5")
  | exact Chg.getK (by assumption) (by walk_at "look5") (by exact rfl)
  | exact Chg.get (by assumption) (by walk_at "look5") (by walk_at "ne5")
  | exact sameGet (by assumption) (by walk_at "look5")
  | exact sbutGet (by assumption) (by walk_at "look5") (by walk_at "ne5")
  | exact keepGet (by assumption) (by walk_at "look5") trivial)
local macro_rules | `(tactic| walk_at "look5") => `(tactic| first
  | assumption
  | exact New.at_ (by assumption)
  | exact Chg.at_ (by assumption)
  | exact New.get (by assumption) (by walk_at "look6")
  | exact Chg.getK (by assumption) (by walk_at "look6") (by exact rfl)
  | exact Chg.get (by assumption) (by walk_at "look6") (by walk_at "ne6")
  | exact sameGet (by assumption) (by walk_at "look6")
  | exact sbutGet (by assumption) (by walk_at "look6") (by walk_at "ne6")
  | exact keepGet (by assumption) (by walk_at "look6") trivial)
local macro_rules | `(tactic| walk_at "look6") => `(tactic| first
  | assumption
  | exact New.at_ (by assumption)
  | exact Chg.at_ (by assumption)
  | exact New.get (by assumption) (by walk_at "look7")
  | exact Chg.getK (by assumption) (by walk_at "look7") (by exact rfl)
  | exact Chg.get (by assumption) (by walk_at "look7") (by walk_at "ne7")
  | exact sameGet (by assumption) (by walk_at "look7")
  | exact sbutGet (by assumption) (by walk_at "look7") (by walk_at "ne7")
  | exact keepGet (by assumption) (by walk_at "look7") trivial)
local macro_rules | `(tactic| walk_at "look7") => `(tactic| first
  | assumption
  | exact New.at_ (by assumption)
  | exact Chg.at_ (by assumption)
  | exact New.get (by assumption) (by walk_at "look8")
  | exact Chg.getK (by assumption) (by walk_at "look8") (by exact rfl)
  | exact Chg.get (by assumption) (by walk_at "look8") (by walk_at "ne8")
  | exact sameGet (by assumption) (by walk_at "look8")
  | exact sbutGet (by assumption) (by walk_at "look8") (by walk_at "ne8")
  | exact keepGet (by assumption) (by walk_at "look8") trivial)
local macro_rules | `(tactic| walk_at "look8") => `(tactic| first
  | assumption
  | exact New.at_ (by assumption)
  | exact Chg.at_ (by assumption)
  | exact New.get (by assumption) (by walk_at "look9")
  | exact Chg.getK (by assumption) (by walk_at "look9") (by exact rfl)
  | exact Chg.get (by assumption) (by walk_at "look9") (by walk_at "ne9")
  | exact sameGet (by assumption) (by walk_at "look9")
  | exact sbutGet (by assumption) (by walk_at "look9") (by walk_at "ne9")
  | exact keepGet (by assumption) (by walk_at "look9") trivial)
local macro_rules | `(tactic| walk_at "look9") => `(tactic| first
  | assumption
  | exact New.at_ (by assumption)
  | exact Chg.at_ (by assumption)
  | exact New.get (by assumption) (by walk_at "look10")
  | exact Chg.getK (by assumption) (by walk_at "look10") (by exact rfl)
  | exact Chg.get (by assumption) (by walk_at "look10") (by walk_at "ne10")
  | exact sameGet (by assumption) (by walk_at "look10")
  | exact sbutGet (by assumption) (by walk_at "look10") (by walk_at "ne10")
  | exact keepGet (by assumption) (by walk_at "look10") trivial)
local macro_rules | `(tactic| walk_at "look10") => `(tactic| first
  | assumption
  | exact New.at_ (by assumption)
  | exact Chg.at_ (by assumption)
  | exact New.get (by assumption) (by walk_at "look11")
  | exact Chg.getK (by assumption) (by walk_at "look11") (by exact rfl)
  | exact Chg.get (by assumption) (by walk_at "look11") (by walk_at "ne11")
  | exact sameGet (by assumption) (by walk_at "look11")
  | exact sbutGet (by assumption) (by walk_at "look11") (by walk_at "ne11")
  | exact keepGet (by assumption) (by walk_at "look11") trivial)
local macro_rules | `(tactic| walk_at "look11") => `(tactic| first
  | assumption
  | exact New.at_ (by assumption)
  | exact Chg.at_ (by assumption)
  | exact New.get (by assumption) (by walk_at "look12")
  | exact Chg.getK (by assumption) (by walk_at "look12") (by exact rfl)
  | exact Chg.get (by assumption) (by walk_at "look12") (by walk_at "ne12")
  | exact sameGet (by assumption) (by walk_at "look12")
  | exact sbutGet (by assumption) (by walk_at "look12") (by walk_at "ne12")
  | exact keepGet (by assumption) (by walk_at "look12") trivial)
local macro_rules | `(tactic| walk_at "look12") => `(tactic| first
  | assumption
  | exact New.at_ (by assumption)
  | exact Chg.at_ (by assumption)
  | exact New.get (by assumption) (by walk_at "look13")
  | exact Chg.getK (by assumption) (by walk_at "look13") (by exact rfl)
  | exact Chg.get (by assumption) (by walk_at "look13") (by walk_at "ne13")
  | exact sameGet (by assumption) (by walk_at "look13")
  | exact sbutGet (by assumption) (by walk_at "look13") (by walk_at "ne13")
  | exact keepGet (by assumption) (by walk_at "look13") trivial)
local macro_rules | `(tactic| walk_at "look13") => `(tactic| first
  | assumption
  | exact New.at_ (by assumption)
  | exact Chg.at_ (by assumption)
  | exact New.get (by assumption) (by walk_at "look14")
  | exact Chg.getK (by assumption) (by walk_at "look14") (by exact rfl)
  | exact Chg.get (by assumption) (by walk_at "look14") (by walk_at "ne14")
  | exact sameGet (by assumption) (by walk_at "look14")
  | exact sbutGet (by assumption) (by walk_at "look14") (by walk_at "ne14")
  | exact keepGet (by assumption) (by walk_at "look14") trivial)
local macro_rules | `(tactic| walk_at "look14") => `(tactic| first
  | assumption
  | exact New.at_ (by assumption)
  | exact Chg.at_ (by assumption)
  | exact New.get (by assumption) (by walk_at "look15")
  | exact Chg.getK (by assumption) (by walk_at "look15") (by exact rfl)
  | exact Chg.get (by assumption) (by walk_at "look15") (by walk_at "ne15")
  | exact sameGet (by assumption) (by walk_at "look15")
  | exact sbutGet (by assumption) (by walk_at "look15") (by walk_at "ne15")
  | exact keepGet (by assumption) (by walk_at "look15") trivial)
local macro_rules | `(tactic| walk_at "look15") => `(tactic| first
  | assumption
  | exact New.at_ (by assumption)
  | exact Chg.at_ (by assumption)
  | exact New.get (by assumption) (by walk_at "look16")
  | exact Chg.getK (by assumption) (by walk_at "look16") (by exact rfl)
  | exact Chg.get (by assumption) (by walk_at "look16") (by walk_at "ne16")
  | exact sameGet (by assumption) (by walk_at "look16")
  | exact sbutGet (by assumption) (by walk_at "look16") (by walk_at "ne16")
  | exact keepGet (by assumption) (by walk_at "look16") trivial)
local macro_rules | `(tactic| walk_at "look16") => `(tactic| first
  | assumption
  | exact New.at_ (by assumption)
  | exact Chg.at_ (by assumption)
  | exact New.get (by assumption) (by walk_at "look17")
  | exact Chg.getK (by assumption) (by walk_at "look17") (by exact rfl)
  | exact Chg.get (by assumption) (by walk_at "look17") (by walk_at "ne17")
  | exact sameGet (by assumption) (by walk_at "look17")
  | exact sbutGet (by assumption) (by walk_at "look17") (by walk_at "ne17")
  | exact keepGet (by assumption) (by walk_at "look17") trivial)
local macro_rules | `(tactic| walk_at "look17") => `(tactic| first
  | assumption
  | exact New.at_ (by assumption)
  | exact Chg.at_ (by assumption)
  | exact New.get (by assumption) (by walk_at "look18")
  | exact Chg.getK (by assumption) (by walk_at "look18") (by exact rfl)
  | exact Chg.get (by assumption) (by walk_at "look18") (by walk_at "ne18")
  | exact sameGet (by assumption) (by walk_at "look18")
  | exact sbutGet (by assumption) (by walk_at "look18") (by walk_at "ne18")
  | exact keepGet (by assumption) (by walk_at "look18") trivial)
local macro_rules | `(tactic| walk_at "look18") => `(tactic| first
  | assumption
  | exact New.at_ (by assumption)
  | exact Chg.at_ (by assumption)
  | exact New.get (by assumption) (by walk_at "look19")
  | exact Chg.getK (by assumption) (by walk_at "look19") (by exact rfl)
  | exact Chg.get (by assumption) (by walk_at "look19") (by walk_at "ne19")
  | exact sameGet (by assumption) (by walk_at "look19")
  | exact sbutGet (by assumption) (by walk_at "look19") (by walk_at "ne19")
  | exact keepGet (by assumption) (by walk_at "look19") trivial)
local macro_rules | `(tactic| walk_at "look19") => `(tactic| first
  | assumption
  | exact New.at_ (by assumption)
  | exact Chg.at_ (by assumption)
  | exact New.get (by assumption) (by walk_at "look20")
  | exact Chg.getK (by assumption) (by walk_at "look20") (by exact rfl)
  | exact Chg.get (by assumption) (by walk_at "look20") (by walk_at "ne20")
  | exact sameGet (by assumption) (by walk_at "look20")
  | exact sbutGet (by assumption) (by walk_at "look20") (by walk_at "ne20")
  | exact keepGet (by assumption) (by walk_at "look20") trivial)
local macro_rules | `(tactic| walk_at "look20") => `(tactic| first
  | assumption
  | exact New.at_ (by assumption)
  | exact Chg.at_ (by assumption)
  | exact New.get (by assumption) (by walk_at "look21")
  | exact Chg.getK (by assumption) (by walk_at "look21") (by exact rfl)
  | exact Chg.get (by assumption) (by walk_at "look21") (by walk_at "ne21")
  | exact sameGet (by assumption) (by walk_at "look21")
  | exact sbutGet (by assumption) (by walk_at "look21") (by walk_at "ne21")
  | exact keepGet (by assumption) (by walk_at "look21") trivial)
local macro_rules | `(tactic| walk_at "look21") => `(tactic| first
  | assumption
  | exact New.at_ (by assumption)
  | exact Chg.at_ (by assumption)
  | exact New.get (by assumption) (by walk_at "look22")
  | exact Chg.getK (by assumption) (by walk_at "look22") (by exact rfl)
  | exact Chg.get (by assumption) (by walk_at "look22") (by walk_at "ne22")
  | exact sameGet (by assumption) (by walk_at "look22")
  | exact sbutGet (by assumption) (by walk_at "look22") (by walk_at "ne22")
  | exact keepGet (by assumption) (by walk_at "look22") trivial)
local macro_rules | `(tactic| walk_at "look22") => `(tactic| first
  | assumption
  | exact New.at_ (by assumption)
  | exact Chg.at_ (by assumption)
  | exact New.get (by assumption) (by walk_at "look23")
  | exact Chg.getK (by assumption) (by walk_at "look23") (by exact rfl)
  | exact Chg.get (by assumption) (by walk_at "look23") (by walk_at "ne23")
  | exact sameGet (by assumption) (by walk_at "look23")
  | exact sbutGet (by assumption) (by walk_at "look23") (by walk_at "ne23")
  | exact keepGet (by assumption) (by walk_at "look23") trivial)
local macro_rules | `(tactic| walk_at "look23") => `(tactic| first
  | assumption
  | exact New.at_ (by assumption)
  | exact Chg.at_ (by assumption)
  | exact New.get (by assumption) (by walk_at "look24")
  | exact Chg.getK (by assumption) (by walk_at "look24") (by exact rfl)
  | exact Chg.get (by assumption) (by walk_at "look24") (by walk_at "ne24")
  | exact sameGet (by assumption) (by walk_at "look24")
  | exact sbutGet (by assumption) (by walk_at "look24") (by walk_at "ne24")
  | exact keepGet (by assumption) (by walk_at "look24") trivial)
local macro_rules | `(tactic| walk_at "look24") => `(tactic| assumption)
local macro_rules | `(tactic| walk_at "kp") => `(tactic| first
  | exact fun _ _ h _ => h
  | assumption
  | exact Keep.of (by assumption)
  | exact keepStep (New.keep (by assumption)) (by walk_at "kp1")
  | exact keepStep (Chg.keepL (by assumption)) (by walk_at "kp1")
  | exact keepStep (Chg.keepD (by assumption)) (by walk_at "kp1")
  | exact keepStep (Chg.keepE (by assumption)) (by walk_at "kp1")
  | exact keepStep (Keep.of (by assumption)) (by walk_at "kp1")
  | exact keepStep (by assumption) (by walk_at "kp1"))
local macro_rules | `(tactic| walk_at "kp1") => `(tactic| first
  | exact fun _ _ h _ => h
  | assumption
  | exact Keep.of (by assumption)
  | exact keepStep (New.keep (by assumption)) (by walk_at "kp2")
  | exact keepStep (Chg.keepL (by assumption)) (by walk_at "kp2")
  | exact keepStep (Chg.keepD (by assumption)) (by walk_at "kp2")
  | exact keepStep (Chg.keepE (by assumption)) (by walk_at "kp2")
  | exact keepStep (Keep.of (by assumption)) (by walk_at "kp2")
  | exact keepStep (by assumption) (by walk_at "kp2"))
local macro_rules | `(tactic| walk_at "kp2") => `(tactic| first
  | exact fun _ _ h _ => h
  | assumption
  | exact Keep.of (by assumption)
  | exact keepStep (New.keep (by assumption)) (by walk_at "kp3")
  | exact keepStep (Chg.keepL (by assumption)) (by walk_at "kp3")
  | exact keepStep (Chg.keepD (by assumption)) (by walk_at "kp3")
  | exact keepStep (Chg.keepE (by assumption)) (by walk_at "kp3")
  | exact keepStep (Keep.of (by assumption)) (by walk_at "kp3")
  | exact keepStep (by assumption) (by walk_at "kp3"))
local macro_rules | `(tactic| walk_at "kp3") => `(tactic| first
  | exact fun _ _ h _ => h
  | assumption
  | exact Keep.of (by assumption)
  | exact keepStep (New.keep (by assumption)) (by walk_at "kp4")
  | exact keepStep (Chg.keepL (by assumption)) (by walk_at "kp4")
  | exact keepStep (Chg.keepD (by assumption)) (by walk_at "kp4")
  | exact keepStep (Chg.keepE (by assumption)) (by walk_at "kp4")
  | exact keepStep (Keep.of (by assumption)) (by walk_at "kp4")
  | exact keepStep (by assumption) (by walk_at "kp4"))
local macro_rules | `(tactic| walk_at "kp4") => `(tactic| first
  | exact fun _ _ h _ => h
  | assumption
  | exact Keep.of (by assumption)
  | exact keepStep (New.keep (by assumption)) (by walk_at "kp5")
  | exact keepStep (Chg.keepL (by assumption)) (by walk_at "kp5")
  | exact keepStep (Chg.keepD (by assumption)) (by walk_at "kp5")
  | exact keepStep (Chg.keepE (by assumption)) (by walk_at "kp5")
  | exact keepStep (Keep.of (by assumption)) (by walk_at "kp5")
  | exact keepStep (by assumption) (by walk_at "kp5"))
local macro_rules | `(tactic| walk_at "kp5") => `(tactic| first
  | exact fun _ _ h _ => h
  | assumption
  | exact Keep.of (by assumption)
  | exact keepStep (New.keep (by assumption)) (by walk_at "kp6")
  | exact keepStep (Chg.keepL (by assumption)) (by walk_at "kp6")
  | exact keepStep (Chg.keepD (by assumption)) (by walk_at "kp6")
  | exact keepStep (Chg.keepE (by assumption)) (by walk_at "kp6")
  | exact keepStep (Keep.of (by assumption)) (by walk_at "kp6")
  | exact keepStep (by assumption) (by walk_at "kp6"))
local macro_rules | `(tactic| walk_at "kp6") => `(tactic| first
  | exact fun _ _ h _ => h
  | assumption
  | exact Keep.of (by assumption)
  | exact keepStep (New.keep (by assumption)) (by walk_at "kp7")
  | exact keepStep (Chg.keepL (by assumption)) (by walk_at "kp7")
  | exact keepStep (Chg.keepD (by assumption)) (by walk_at "kp7")
  | exact keepStep (Chg.keepE (by assumption)) (by walk_at "kp7")
  | exact keepStep (Keep.of (by assumption)) (by walk_at "kp7")
  | exact keepStep (by assumption) (by walk_at "kp7"))
local macro_rules | `(tactic| walk_at "kp7") => `(tactic| first
  | exact fun _ _ h _ => h
  | assumption
  | exact Keep.of (by assumption)
  | exact keepStep (New.keep (by assumption)) (by walk_at "kp8")
  | exact keepStep (Chg.keepL (by assumption)) (by walk_at "kp8")
  | exact keepStep (Chg.keepD (by assumption)) (by walk_at "kp8")
  | exact keepStep (Chg.keepE (by assumption)) (by walk_at "kp8")
  | exact keepStep (Keep.of (by assumption)) (by walk_at "kp8")
  | exact keepStep (by assumption) (by walk_at "kp8"))
local macro_rules | `(tactic| walk_at "kp8") => `(tactic| first
  | exact fun _ _ h _ => h
  | assumption
  | exact Keep.of (by assumption)
  | exact keepStep (New.keep (by assumption)) (by walk_at "kp9")
  | exact keepStep (Chg.keepL (by assumption)) (by walk_at "kp9")
  | exact keepStep (Chg.keepD (by assumption)) (by walk_at "kp9")
  | exact keepStep (Chg.keepE (by assumption)) (by walk_at "kp9")
  | exact keepStep (Keep.of (by assumption)) (by walk_at "kp9")
  | exact keepStep (by assumption) (by walk_at "kp9"))
local macro_rules | `(tactic| walk_at "kp9") => `(tactic| first
  | exact fun _ _ h _ => h
  | assumption
  | exact Keep.of (by assumption)
  | exact keepStep (New.keep (by assumption)) (by walk_at "kp10")
  | exact keepStep (Chg.keepL (by assumption)) (by walk_at "kp10")
  | exact keepStep (Chg.keepD (by assumption)) (by walk_at "kp10")
  | exact keepStep (Chg.keepE (by assumption)) (by walk_at "kp10")
  | exact keepStep (Keep.of (by assumption)) (by walk_at "kp10")
  | exact keepStep (by assumption) (by walk_at "kp10"))
local macro_rules | `(tactic| walk_at "kp10") => `(tactic| first
  | exact fun _ _ h _ => h
  | assumption
  | exact Keep.of (by assumption)
  | exact keepStep (New.keep (by assumption)) (by walk_at "kp11")
  | exact keepStep (Chg.keepL (by assumption)) (by walk_at "kp11")
  | exact keepStep (Chg.keepD (by assumption)) (by walk_at "kp11")
  | exact keepStep (Chg.keepE (by assumption)) (by walk_at "kp11")
  | exact keepStep (Keep.of (by assumption)) (by walk_at "kp11")
  | exact keepStep (by assumption) (by walk_at "kp11"))
local macro_rules | `(tactic| walk_at "kp11") => `(tactic| first
  | exact fun _ _ h _ => h
  | assumption
  | exact Keep.of (by assumption)
  | exact keepStep (New.keep (by assumption)) (by walk_at "kp12")
  | exact keepStep (Chg.keepL (by assumption)) (by walk_at "kp12")
  | exact keepStep (Chg.keepD (by assumption)) (by walk_at "kp12")
  | exact keepStep (Chg.keepE (by assumption)) (by walk_at "kp12")
  | exact keepStep (Keep.of (by assumption)) (by walk_at "kp12")
  | exact keepStep (by assumption) (by walk_at "kp12"))
local macro_rules | `(tactic| walk_at "kp12") => `(tactic| first
  | exact fun _ _ h _ => h
  | assumption
  | exact Keep.of (by assumption)
  | exact keepStep (New.keep (by assumption)) (by walk_at "kp13")
  | exact keepStep (Chg.keepL (by assumption)) (by walk_at "kp13")
  | exact keepStep (Chg.keepD (by assumption)) (by walk_at "kp13")
  | exact keepStep (Chg.keepE (by assumption)) (by walk_at "kp13")
  | exact keepStep (Keep.of (by assumption)) (by walk_at "kp13")
  | exact keepStep (by assumption) (by walk_at "kp13"))
local macro_rules | `(tactic| walk_at "kp13") => `(tactic| first
  | exact fun _ _ h _ => h
  | assumption
  | exact Keep.of (by assumption)
  | exact keepStep (New.keep (by assumption)) (by walk_at "kp14")
  | exact keepStep (Chg.keepL (by assumption)) (by walk_at "kp14")
  | exact keepStep (Chg.keepD (by assumption)) (by walk_at "kp14")
  | exact keepStep (Chg.keepE (by assumption)) (by walk_at "kp14")
  | exact keepStep (Keep.of (by assumption)) (by walk_at "kp14")
  | exact keepStep (by assumption) (by walk_at "kp14"))
local macro_rules | `(tactic| walk_at "kp14") => `(tactic| first
  | exact fun _ _ h _ => h
  | assumption
  | exact Keep.of (by assumption)
  | exact keepStep (New.keep (by assumption)) (by walk_at "kp15")
  | exact keepStep (Chg.keepL (by assumption)) (by walk_at "kp15")
  | exact keepStep (Chg.keepD (by assumption)) (by walk_at "kp15")
  | exact keepStep (Chg.keepE (by assumption)) (by walk_at "kp15")
  | exact keepStep (Keep.of (by assumption)) (by walk_at "kp15")
  | exact keepStep (by assumption) (by walk_at "kp15"))
local macro_rules | `(tactic| walk_at "kp15") => `(tactic| first
  | exact fun _ _ h _ => h
  | assumption
  | exact Keep.of (by assumption)
  | exact keepStep (New.keep (by assumption)) (by walk_at "kp16")
  | exact keepStep (Chg.keepL (by assumption)) (by walk_at "kp16")
  | exact keepStep (Chg.keepD (by assumption)) (by walk_at "kp16")
  | exact keepStep (Chg.keepE (by assumption)) (by walk_at "kp16")
  | exact keepStep (Keep.of (by assumption)) (by walk_at "kp16")
  | exact keepStep (by assumption) (by walk_at "kp16"))
local macro_rules | `(tactic| walk_at "kp16") => `(tactic| first
  | exact fun _ _ h _ => h
  | assumption
  | exact Keep.of (by assumption)
  | exact keepStep (New.keep (by assumption)) (by walk_at "kp17")
  | exact keepStep (Chg.keepL (by assumption)) (by walk_at "kp17")
  | exact keepStep (Chg.keepD (by assumption)) (by walk_at "kp17")
  | exact keepStep (Chg.keepE (by assumption)) (by walk_at "kp17")
  | exact keepStep (Keep.of (by assumption)) (by walk_at "kp17")
  | exact keepStep (by assumption) (by walk_at "kp17"))
local macro_rules | `(tactic| walk_at "kp17") => `(tactic| first
  | exact fun _ _ h _ => h
  | assumption
  | exact Keep.of (by assumption)
  | exact keepStep (New.keep (by assumption)) (by walk_at "kp18")
  | exact keepStep (Chg.keepL (by assumption)) (by walk_at "kp18")
  | exact keepStep (Chg.keepD (by assumption)) (by walk_at "kp18")
  | exact keepStep (Chg.keepE (by assumption)) (by walk_at "kp18")
  | exact keepStep (Keep.of (by assumption)) (by walk_at "kp18")
  | exact keepStep (by assumption) (by walk_at "kp18"))
local macro_rules | `(tactic| walk_at "kp18") => `(tactic| first
  | exact fun _ _ h _ => h
  | assumption
  | exact Keep.of (by assumption)
  | exact keepStep (New.keep (by assumption)) (by walk_at "kp19")
  | exact keepStep (Chg.keepL (by assumption)) (by walk_at "kp19")
  | exact keepStep (Chg.keepD (by assumption)) (by walk_at "kp19")
  | exact keepStep (Chg.keepE (by assumption)) (by walk_at "kp19")
  | exact keepStep (Keep.of (by assumption)) (by walk_at "kp19")
  | exact keepStep (by assumption) (by walk_at "kp19"))
local macro_rules | `(tactic| walk_at "kp19") => `(tactic| first
  | exact fun _ _ h _ => h
  | assumption
  | exact Keep.of (by assumption)
  | exact keepStep (New.keep (by assumption)) (by walk_at "kp20")
  | exact keepStep (Chg.keepL (by assumption)) (by walk_at "kp20")
  | exact keepStep (Chg.keepD (by assumption)) (by walk_at "kp20")
  | exact keepStep (Chg.keepE (by assumption)) (by walk_at "kp20")
  | exact keepStep (Keep.of (by assumption)) (by walk_at "kp20")
  | exact keepStep (by assumption) (by walk_at "kp20"))
local macro_rules | `(tactic| walk_at "kp20") => `(tactic| first
  | exact fun _ _ h _ => h
  | assumption
  | exact Keep.of (by assumption)
  | exact keepStep (New.keep (by assumption)) (by walk_at "kp21")
  | exact keepStep (Chg.keepL (by assumption)) (by walk_at "kp21")
  | exact keepStep (Chg.keepD (by assumption)) (by walk_at "kp21")
  | exact keepStep (Chg.keepE (by assumption)) (by walk_at "kp21")
  | exact keepStep (Keep.of (by assumption)) (by walk_at "kp21")
  | exact keepStep (by assumption) (by walk_at "kp21"))
local macro_rules | `(tactic| walk_at "kp21") => `(tactic| first
  | exact fun _ _ h _ => h
  | assumption
  | exact Keep.of (by assumption)
  | exact keepStep (New.keep (by assumption)) (by walk_at "kp22")
  | exact keepStep (Chg.keepL (by assumption)) (by walk_at "kp22")
  | exact keepStep (Chg.keepD (by assumption)) (by walk_at "kp22")
  | exact keepStep (Chg.keepE (by assumption)) (by walk_at "kp22")
  | exact keepStep (Keep.of (by assumption)) (by walk_at "kp22")
  | exact keepStep (by assumption) (by walk_at "kp22"))
local macro_rules | `(tactic| walk_at "kp22") => `(tactic| first
  | exact fun _ _ h _ => h
  | assumption
  | exact Keep.of (by assumption)
  | exact keepStep (New.keep (by assumption)) (by walk_at "kp23")
  | exact keepStep (Chg.keepL (by assumption)) (by walk_at "kp23")
  | exact keepStep (Chg.keepD (by assumption)) (by walk_at "kp23")
  | exact keepStep (Chg.keepE (by assumption)) (by walk_at "kp23")
  | exact keepStep (Keep.of (by assumption)) (by walk_at "kp23")
  | exact keepStep (by assumption) (by walk_at "kp23"))
local macro_rules | `(tactic| walk_at "kp23") => `(tactic| first
  | exact fun _ _ h _ => h
  | assumption
  | exact Keep.of (by assumption)
  | exact keepStep (New.keep (by assumption)) (by walk_at "kp24")
  | exact keepStep (Chg.keepL (by assumption)) (by walk_at "kp24")
  | exact keepStep (Chg.keepD (by assumption)) (by walk_at "kp24")
  | exact keepStep (Chg.keepE (by assumption)) (by walk_at "kp24")
  | exact keepStep (Keep.of (by assumption)) (by walk_at "kp24")
  | exact keepStep (by assumption) (by walk_at "kp24"))
local macro_rules | `(tactic| walk_at "kp24") => `(tactic| assumption)
local macro_rules | `(tactic| walk_at "sm") => `(tactic| first
  | exact Same.refl _
  | assumption
  | exact sameStep (New.same (by assumption)) (by walk_at "sm1")
  | exact Chg.sameOwn (by assumption) (by walk_at "sm1") (by walk_at "fr1")
  | exact sameStep (by assumption) (by walk_at "sm1"))
local macro_rules | `(tactic| walk_at "sm1") => `(tactic| first
  | exact Same.refl _
  | assumption
  | exact sameStep (New.same (by assumption)) (by walk_at "sm2")
  | exact Chg.sameOwn (by assumption) (by walk_at "sm2") (by walk_at "fr2")
  | exact sameStep (by assumption) (by walk_at "sm2"))
local macro_rules | `(tactic| walk_at "sm2") => `(tactic| first
  | exact Same.refl _
  | assumption
  | exact sameStep (New.same (by assumption)) (by walk_at "sm3")
  | exact Chg.sameOwn (by assumption) (by walk_at "sm3") (by walk_at "fr3")
  | exact sameStep (by assumption) (by walk_at "sm3"))
local macro_rules | `(tactic| walk_at "sm3") => `(tactic| first
  | exact Same.refl _
  | assumption
  | exact sameStep (New.same (by assumption)) (by walk_at "sm4")
  | exact Chg.sameOwn (by assumption) (by walk_at "sm4") (by walk_at "fr4")
  | exact sameStep (by assumption) (by walk_at "sm4"))
local macro_rules | `(tactic| walk_at "sm4") => `(tactic| first
  | exact Same.refl _
  | assumption
  | exact sameStep (New.same (by assumption)) (by walk_at "sm5")
  | exact Chg.sameOwn (by assumption) (by walk_at "sm5") (by walk_at "fr5")
  | exact sameStep (by assumption) (by walk_at "sm5"))
local macro_rules | `(tactic| walk_at "sm5") => `(tactic| first
  | exact Same.refl _
  | assumption
  | exact sameStep (New.same (by assumption)) (by walk_at "sm6")
  | exact Chg.sameOwn (by assumption) (by walk_at "sm6") (by walk_at "fr6")
  | exact sameStep (by assumption) (by walk_at "sm6"))
local macro_rules | `(tactic| walk_at "sm6") => `(tactic| first
  | exact Same.refl _
  | assumption
  | exact sameStep (New.same (by assumption)) (by walk_at "sm7")
  | exact Chg.sameOwn (by assumption) (by walk_at "sm7") (by walk_at "fr7")
  | exact sameStep (by assumption) (by walk_at "sm7"))
local macro_rules | `(tactic| walk_at "sm7") => `(tactic| first
  | exact Same.refl _
  | assumption
  | exact sameStep (New.same (by assumption)) (by walk_at "sm8")
  | exact Chg.sameOwn (by assumption) (by walk_at "sm8") (by walk_at "fr8")
  | exact sameStep (by assumption) (by walk_at "sm8"))
local macro_rules | `(tactic| walk_at "sm8") => `(tactic| first
  | exact Same.refl _
  | assumption
  | exact sameStep (New.same (by assumption)) (by walk_at "sm9")
  | exact Chg.sameOwn (by assumption) (by walk_at "sm9") (by walk_at "fr9")
  | exact sameStep (by assumption) (by walk_at "sm9"))
local macro_rules | `(tactic| walk_at "sm9") => `(tactic| first
  | exact Same.refl _
  | assumption
  | exact sameStep (New.same (by assumption)) (by walk_at "sm10")
  | exact Chg.sameOwn (by assumption) (by walk_at "sm10") (by walk_at "fr10")
  | exact sameStep (by assumption) (by walk_at "sm10"))
local macro_rules | `(tactic| walk_at "sm10") => `(tactic| first
  | exact Same.refl _
  | assumption
  | exact sameStep (New.same (by assumption)) (by walk_at "sm11")
  | exact Chg.sameOwn (by assumption) (by walk_at "sm11") (by walk_at "fr11")
  | exact sameStep (by assumption) (by walk_at "sm11"))
local macro_rules | `(tactic| walk_at "sm11") => `(tactic| first
  | exact Same.refl _
  | assumption
  | exact sameStep (New.same (by assumption)) (by walk_at "sm12")
  | exact Chg.sameOwn (by assumption) (by walk_at "sm12") (by walk_at "fr12")
  | exact sameStep (by assumption) (by walk_at "sm12"))
local macro_rules | `(tactic| walk_at "sm12") => `(tactic| first
  | exact Same.refl _
  | assumption
  | exact sameStep (New.same (by assumption)) (by walk_at "sm13")
  | exact Chg.sameOwn (by assumption) (by walk_at "sm13") (by walk_at "fr13")
  | exact sameStep (by assumption) (by walk_at "sm13"))
local macro_rules | `(tactic| walk_at "sm13") => `(tactic| first
  | exact Same.refl _
  | assumption
  | exact sameStep (New.same (by assumption)) (by walk_at "sm14")
  | exact Chg.sameOwn (by assumption) (by walk_at "sm14") (by walk_at "fr14")
  | exact sameStep (by assumption) (by walk_at "sm14"))
local macro_rules | `(tactic| walk_at "sm14") => `(tactic| first
  | exact Same.refl _
  | assumption
  | exact sameStep (New.same (by assumption)) (by walk_at "sm15")
  | exact Chg.sameOwn (by assumption) (by walk_at "sm15") (by walk_at "fr15")
  | exact sameStep (by assumption) (by walk_at "sm15"))
local macro_rules | `(tactic| walk_at "sm15") => `(tactic| first
  | exact Same.refl _
  | assumption
  | exact sameStep (New.same (by assumption)) (by walk_at "sm16")
  | exact Chg.sameOwn (by assumption) (by walk_at "sm16") (by walk_at "fr16")
  | exact sameStep (by assumption) (by walk_at "sm16"))
local macro_rules | `(tactic| walk_at "sm16") => `(tactic| first
  | exact Same.refl _
  | assumption
  | exact sameStep (New.same (by assumption)) (by walk_at "sm17")
  | exact Chg.sameOwn (by assumption) (by walk_at "sm17") (by walk_at "fr17")
  | exact sameStep (by assumption) (by walk_at "sm17"))
local macro_rules | `(tactic| walk_at "sm17") => `(tactic| first
  | exact Same.refl _
  | assumption
  | exact sameStep (New.same (by assumption)) (by walk_at "sm18")
  | exact Chg.sameOwn (by assumption) (by walk_at "sm18") (by walk_at "fr18")
  | exact sameStep (by assumption) (by walk_at "sm18"))
local macro_rules | `(tactic| walk_at "sm18") => `(tactic| first
  | exact Same.refl _
  | assumption
  | exact sameStep (New.same (by assumption)) (by walk_at "sm19")
  | exact Chg.sameOwn (by assumption) (by walk_at "sm19") (by walk_at "fr19")
  | exact sameStep (by assumption) (by walk_at "sm19"))
local macro_rules | `(tactic| walk_at "sm19") => `(tactic| first
  | exact Same.refl _
  | assumption
  | exact sameStep (New.same (by assumption)) (by walk_at "sm20")
  | exact Chg.sameOwn (by assumption) (by walk_at "sm20") (by walk_at "fr20")
  | exact sameStep (by assumption) (by walk_at "sm20"))
local macro_rules | `(tactic| walk_at "sm20") => `(tactic| first
  | exact Same.refl _
  | assumption
  | exact sameStep (New.same (by assumption)) (by walk_at "sm21")
  | exact Chg.sameOwn (by assumption) (by walk_at "sm21") (by walk_at "fr21")
  | exact sameStep (by assumption) (by walk_at "sm21"))
local macro_rules | `(tactic| walk_at "sm21") => `(tactic| first
  | exact Same.refl _
  | assumption
  | exact sameStep (New.same (by assumption)) (by walk_at "sm22")
  | exact Chg.sameOwn (by assumption) (by walk_at "sm22") (by walk_at "fr22")
  | exact sameStep (by assumption) (by walk_at "sm22"))
local macro_rules | `(tactic| walk_at "sm22") => `(tactic| first
  | exact Same.refl _
  | assumption
  | exact sameStep (New.same (by assumption)) (by walk_at "sm23")
  | exact Chg.sameOwn (by assumption) (by walk_at "sm23") (by walk_at "fr23")
  | exact sameStep (by assumption) (by walk_at "sm23"))
local macro_rules | `(tactic| walk_at "sm23") => `(tactic| first
  | exact Same.refl _
  | assumption
  | exact sameStep (New.same (by assumption)) (by walk_at "sm24")
  | exact Chg.sameOwn (by assumption) (by walk_at "sm24") (by walk_at "fr24")
  | exact sameStep (by assumption) (by walk_at "sm24"))
local macro_rules | `(tactic| walk_at "sm24") => `(tactic| assumption)
local macro_rules | `(tactic| walk_at "fr") => `(tactic| first
  | assumption
  | exact New.free (by assumption)
  | exact freeBack (New.free (by assumption)) (by walk_at "sm1"))
local macro_rules | `(tactic| walk_at "fr1") => `(tactic| first
  | assumption
  | exact New.free (by assumption)
  | exact freeBack (New.free (by assumption)) (by walk_at "sm2"))
local macro_rules | `(tactic| walk_at "fr2") => `(tactic| first
  | assumption
  | exact New.free (by assumption)
  | exact freeBack (New.free (by assumption)) (by walk_at "sm3"))
local macro_rules | `(tactic| walk_at "fr3") => `(tactic| first
  | assumption
  | exact New.free (by assumption)
  | exact freeBack (New.free (by assumption)) (by walk_at "sm4"))
local macro_rules | `(tactic| walk_at "fr4") => `(tactic| first
  | assumption
  | exact New.free (by assumption)
  | exact freeBack (New.free (by assumption)) (by walk_at "sm5"))
local macro_rules | `(tactic| walk_at "fr5") => `(tactic| first
  | assumption
  | exact New.free (by assumption)
  | exact freeBack (New.free (by assumption)) (by walk_at "sm6"))
local macro_rules | `(tactic| walk_at "fr6") => `(tactic| first
  | assumption
  | exact New.free (by assumption)
  | exact freeBack (New.free (by assumption)) (by walk_at "sm7"))
local macro_rules | `(tactic| walk_at "fr7") => `(tactic| first
  | assumption
  | exact New.free (by assumption)
  | exact freeBack (New.free (by assumption)) (by walk_at "sm8"))
local macro_rules | `(tactic| walk_at "fr8") => `(tactic| first
  | assumption
  | exact New.free (by assumption)
  | exact freeBack (New.free (by assumption)) (by walk_at "sm9"))
local macro_rules | `(tactic| walk_at "fr9") => `(tactic| first
  | assumption
  | exact New.free (by assumption)
  | exact freeBack (New.free (by assumption)) (by walk_at "sm10"))
local macro_rules | `(tactic| walk_at "fr10") => `(tactic| first
  | assumption
  | exact New.free (by assumption)
  | exact freeBack (New.free (by assumption)) (by walk_at "sm11"))
local macro_rules | `(tactic| walk_at "fr11") => `(tactic| first
  | assumption
  | exact New.free (by assumption)
  | exact freeBack (New.free (by assumption)) (by walk_at "sm12"))
local macro_rules | `(tactic| walk_at "fr12") => `(tactic| first
  | assumption
  | exact New.free (by assumption)
  | exact freeBack (New.free (by assumption)) (by walk_at "sm13"))
local macro_rules | `(tactic| walk_at "fr13") => `(tactic| first
  | assumption
  | exact New.free (by assumption)
  | exact freeBack (New.free (by assumption)) (by walk_at "sm14"))
local macro_rules | `(tactic| walk_at "fr14") => `(tactic| first
  | assumption
  | exact New.free (by assumption)
  | exact freeBack (New.free (by assumption)) (by walk_at "sm15"))
local macro_rules | `(tactic| walk_at "fr15") => `(tactic| first
  | assumption
  | exact New.free (by assumption)
  | exact freeBack (New.free (by assumption)) (by walk_at "sm16"))
local macro_rules | `(tactic| walk_at "fr16") => `(tactic| first
  | assumption
  | exact New.free (by assumption)
  | exact freeBack (New.free (by assumption)) (by walk_at "sm17"))
local macro_rules | `(tactic| walk_at "fr17") => `(tactic| first
  | assumption
  | exact New.free (by assumption)
  | exact freeBack (New.free (by assumption)) (by walk_at "sm18"))
local macro_rules | `(tactic| walk_at "fr18") => `(tactic| first
  | assumption
  | exact New.free (by assumption)
  | exact freeBack (New.free (by assumption)) (by walk_at "sm19"))
local macro_rules | `(tactic| walk_at "fr19") => `(tactic| first
  | assumption
  | exact New.free (by assumption)
  | exact freeBack (New.free (by assumption)) (by walk_at "sm20"))
local macro_rules | `(tactic| walk_at "fr20") => `(tactic| first
  | assumption
  | exact New.free (by assumption)
  | exact freeBack (New.free (by assumption)) (by walk_at "sm21"))
local macro_rules | `(tactic| walk_at "fr21") => `(tactic| first
  | assumption
  | exact New.free (by assumption)
  | exact freeBack (New.free (by assumption)) (by walk_at "sm22"))
local macro_rules | `(tactic| walk_at "fr22") => `(tactic| first
  | assumption
  | exact New.free (by assumption)
  | exact freeBack (New.free (by assumption)) (by walk_at "sm23"))
local macro_rules | `(tactic| walk_at "fr23") => `(tactic| first
  | assumption
  | exact New.free (by assumption)
  | exact freeBack (New.free (by assumption)) (by walk_at "sm24"))
local macro_rules | `(tactic| walk_at "fr24") => `(tactic| assumption)
local macro_rules | `(tactic| walk_at "ci") => `(tactic| first | decide | exact ⟨by decide, by decide⟩ | assumption | exact cmR (by decide) (by decide) | exact cmL (by decide) (by decide) | exact cmR (by omega) (by omega) | exact cmL (by omega) (by omega) | exact dvW (by omega) (by omega) | omega)
local macro_rules | `(tactic| walk_at "sz") => `(tactic| (have hzz := sizeLine_eq; (try simp only [List.length_append, List.length_cons, List.length_nil, List.length_map, List.length_replicate]); (first | done | omega)))
local macro_rules | `(tactic| walk_at "at") => `(tactic| first | assumption | exact rfl | exact atI_nat (by assumption))
local macro_rules | `(tactic| walk_at "ty") => `(tactic| first
  | exact .base .non
  | exact .base (.bl _)
  | exact .base (.int _)
  | exact .base (.str _)
  | exact .base (.tup (by walk_at "look"))
  | exact .base (.lst (by walk_at "look"))
  | exact .base (.dK (by walk_at "look")))
local macro_rules | `(tactic| walk_at "sy1") => `(tactic| first
  | with_reducible refine w_seq ?_
  | with_reducible refine w_asg ?_
  | ((with_reducible apply w_var); (· exact rfl))
  | with_reducible refine w_C ?_
  | ((with_reducible refine w_name ?_); intro σ' e; (first | dsimp only [List.set] at e | dsimp only [L2.start, L2.wipe, List.map, List.length_cons, List.length_nil, Nat.reduceAdd, Nat.reduceSub, List.replicate, List.cons_append, List.nil_append, List.append, List.set] at e); subst e)
  | with_reducible refine w_nx ?_
  | with_reducible refine w_cons ?_
  | with_reducible refine w_nil ?_
  | with_reducible refine w_op ?_
  | with_reducible refine w_rI0 ?_
  | ((with_reducible apply w_rI); (· walk_at "ci"))
  | with_reducible refine w_call ?_
  | with_reducible refine w_ifS ?_
  | with_reducible refine w_tup ?_
  | with_reducible refine w_lst ?_
  | ((with_reducible apply w_newT); (· walk_at "sz"); intro p H' n)
  | ((with_reducible apply w_newL); (· walk_at "sz"); intro p H' n)
  | with_reducible refine w_test ?_
  | with_reducible refine w_tB ?_
  | with_reducible refine w_rEqI ?_
  | with_reducible refine w_rEqS ?_
  | with_reducible refine w_rNeI ?_
  | with_reducible refine w_rNeS ?_
  | with_reducible refine w_blB ?_
  | with_reducible refine iteDT rfl ?_
  | ((with_reducible apply iteDT); (· (first | omega | assumption)))
  | ((with_reducible apply iteDF); (· (first | omega | assumption | exact (fun h => V.noConfusion h) | (with_reducible exact (by decide +kernel)))))
  | ((with_reducible apply iteBT); (· (first | exact rfl | assumption | decide +kernel)))
  | ((with_reducible apply iteBF); (· (first | exact rfl | assumption | decide +kernel)))
  | ((with_reducible apply iteNF); (· (first | exact rfl | omega | assumption)))
  | ((with_reducible apply iteNT); (· (first | omega | assumption | exact (fun h => V.noConfusion h))))
  | with_reducible refine w_next ?_
  | ((with_reducible apply w_ixT); (· walk_at "look"); (· walk_at "at"))
  | ((with_reducible apply w_ixL); (· walk_at "look"); (· walk_at "at"))
  | with_reducible refine w_cb ?_
  | ((with_reducible apply w_lenT); (· walk_at "look"))
  | ((with_reducible apply w_lenL); (· walk_at "look"))
  | with_reducible refine w_bm ?_
  | with_reducible refine w_bm0 ?_
  | ((with_reducible apply w_tyL); (· walk_at "look"))
  | ((with_reducible apply w_append); (· walk_at "look"); (· walk_at "sz"); intro H' c)
  | ((with_reducible apply w_setL); (· walk_at "look"); (· walk_at "at"); intro H' c)
  | with_reducible refine w_ret ?_
  | with_reducible refine w_retN ?_
  | with_reducible refine w_rt ?_
  | with_reducible refine w_bk ?_
  | with_reducible refine w_ct ?_
  | with_reducible refine w_break ?_
  | with_reducible refine w_cont ?_
  | with_reducible refine w_drop ?_
  | with_reducible refine w_if ?_
  | with_reducible refine w_and ?_
  | with_reducible refine w_or ?_
  | with_reducible refine w_not ?_
  | with_reducible refine w_andV ?_
  | with_reducible refine w_orV ?_
  | with_reducible refine w_notV ?_
  | with_reducible refine w_isN ?_
  | with_reducible refine w_notN ?_
  | with_reducible refine w_un ?_
  | with_reducible refine w_rU ?_
  | with_reducible refine w_fld ?_
  | ((with_reducible apply w_fld1); (· walk_at "look"); (· assumption); (· assumption); (· exact rfl))
  | with_reducible refine w_par ?_
  | with_reducible refine w_par1 ?_
  | ((with_reducible apply w_aug); (· exact rfl))
  | with_reducible refine w_for ?_
  | with_reducible refine w_iTup ?_
  | with_reducible refine w_iList ?_
  | ((with_reducible apply w_forT); (· walk_at "look"))
  | ((with_reducible apply w_forL); (· walk_at "look"))
  | ((with_reducible apply w_inT); (· walk_at "look"); (· exact rfl); (· exact rfl))
  | ((with_reducible apply w_inL); (· walk_at "look"); (· exact rfl); (· exact rfl))
  | with_reducible refine w_lc ?_
  | ((with_reducible apply w_wipe); (· exact rfl))
  | with_reducible refine w_yes ?_
  | ((with_reducible apply w_acc); (· walk_at "look"); (· walk_at "sz"); intro H' c)
  | with_reducible refine w_rng1 ?_
  | with_reducible refine w_rng2 ?_
  | ((with_reducible apply w_rng1a); (· omega); (· omega))
  | ((with_reducible apply w_rng2a); (· omega); (· omega); (· omega); (· omega))
  | ((with_reducible apply w_gTup); (· walk_at "look"); (· exact rfl))
  | with_reducible refine w_gCons ?_
  | with_reducible refine w_gNil ?_
  | ((with_reducible apply w_cat); (· walk_at "look"); (· walk_at "look"); (· walk_at "sz"); intro p H' n)
  | ((with_reducible apply w_rep); (· walk_at "look"); (· omega); (· omega); (· walk_at "sz"); intro p H' n)
  | with_reducible refine w_zipA ?_
  | ((with_reducible apply w_zipT); (· walk_at "look"); (· walk_at "look"))
  | with_reducible refine w_meth ?_
  | ((with_reducible apply w_meth1); (· walk_at "look"); (· exact rfl))
  | ((with_reducible apply w_tupOfL); (· walk_at "look"))
  | ((with_reducible apply w_tupOfT); (· walk_at "look"))
  | with_reducible refine w_intB ?_
  | with_reducible refine w_intI ?_
  | with_reducible refine w_sl ?_
  | with_reducible refine w_part ?_
  | with_reducible refine w_part1 ?_
  | with_reducible refine w_nopart ?_
  | ((with_reducible apply w_slL); (· walk_at "look"); intro p H' n)
  | ((with_reducible apply w_isi); (· walk_at "ty"); (· exact rfl))
  | ((with_reducible apply w_all); (· walk_at "look"))
  | with_reducible refine w_sfld ?_
  | with_reducible refine w_gSub ?_
  | ((with_reducible intro l hl); generalize hX : upd _ l _ = H'; have n := newOf hl hX; clear hX)
  | walk_at "use")
local macro_rules | `(tactic| walk_at "sy") => `(tactic| repeat walk_at "sy1")
/-! ### draws -/
/-- a list that stays, whatever becomes of the object at p -/
def Stays (K : PySem.W.Frag) (H : Hp) (p a : Addr) (xs : List V) : Prop := ∀ H', SameBut p H H' → SqL K H' a xs
theorem Stays.of {K : PySem.W.Frag} {H0 H : Hp} {p a : Addr} {xs : List V} (h : SqL K H0 a xs) (s : Same H0 H) (f : H0 p = none) : Stays K H p a xs := fun H' b => Same.seq (fun x o e => b _ _ (s _ _ e) (ne_of_none e f)) h
theorem Stays.but {K : PySem.W.Frag} {H H' : Hp} {p a : Addr} {xs : List V} (h : Stays K H p a xs) (s : SameBut p H H') : Stays K H' p a xs := fun H2 b => h H2 (fun x o e n => b _ _ (s _ _ e n) n)
theorem Stays.now {K : PySem.W.Frag} {H : Hp} {p a : Addr} {xs : List V} (h : Stays K H p a xs) : SqL K H a xs := h H fun _ _ e _ => e
section
variable {P : Program} {w : World} {K : PySem.W.Frag} {mg : Str → Option Value} {base : Heap}
theorem w_lenS {H : Hp} {p : Addr} {xs : List V} {P : List V → Prop} (a : SqL K H p xs) (h : P xs) : ∃ p' ys, [V.ref p] = [.ref p'] ∧ (SqL K H p' ys ∨ SqT K H p' ys) ∧ P ys := ⟨p, xs, rfl, .inl a, h⟩
theorem w_ixS {H : Hp} {Q : VK} {p : Addr} {xs : List V} {i : Int} {v : V} (a : SqL K H p xs) (e : atI xs i = some v) (h : Q v H) : rIxL K (.ref p) (.int i) H Q := ⟨p, xs, i, v, rfl, rfl, a, e, h⟩
def spDraw (K : PySem.W.Frag) : Sp := fun vs H Q _ => ∃ (a tp : Addr) (ns : List Int) (k : Nat) (m : Int), vs = [.ref a, .ref tp, .int m] ∧ Stays K H tp a (ns.map V.int) ∧ H tp = some (.lst [.int (k : Int)]) ∧ k ≤ 1000000 ∧ 0 < m ∧
  ∀ (H' : Hp) (d : Int), Chg tp (.lst [.int (k : Int)]) (.lst [.int ((k + 1 : Nat) : Int)]) H H' → 0 ≤ d → d < m → Q (.int d) H'
theorem use_draw {H : Hp} {Q : VK} {E : XK} {a tp : Addr} {ns : List Int} {k : Nat} {m : Int} (h1 : Stays K H tp a (ns.map V.int)) (h2 : H tp = some (.lst [.int (k : Int)])) (h3 : k ≤ 1000000) (h4 : 0 < m)
    (q : ∀ (H' : Hp) (d : Int), Chg tp (.lst [.int (k : Int)]) (.lst [.int ((k + 1 : Nat) : Int)]) H H' → 0 ≤ d → d < m → Q (.int d) H') : spDraw K ([.ref a, .ref tp, .int m] ++ []) H Q E := ⟨a, tp, ns, k, m, rfl, h1, h2, h3, h4, q⟩
theorem ok_l_draw (T : Tx K mg) : FnOk P w K mg base CX0 1 T.f_l_draw T.d_l_draw ["_law_script", "_law_tape", "_law_many"] (spDraw K) := by
  refine T.F_l_draw.ok sc_l_draw (fun vs H Q E h => ?_) (fun cdv A outer s H vs Q E hr h => ?_)
  · obtain ⟨a, tp, ns, k, m, rfl, _⟩ := h
    rfl
  · obtain ⟨a, tp, ns, k, m, rfl, hS, htp, hk, hm, q⟩ := h
    refine ⟨_, (pss_cons (ps_set (i := 3) sc_l_draw.nd rfl (Or.inl rfl) (pe_ix (ix_listK (K := K) rfl) (pv 1) pe_int (fun _ _ => rfl)))
      (pss_cons (ps_asg (pe_op op_add (pv 3) pe_int) (pg_sub (pv 1) pe_int set_list))
      (pss_cons (ps_set (i := 4) sc_l_draw.nd rfl (Or.inl rfl) pe_int)
      (pss_cons (ps_if (pt_cmpR op_gt (pe_callB (len_seqK (K := K) rfl) (by rfl) T.n_len PySem.boot_len (pa_cons (pv 0) pa_nil)) pe_int (nomark _))
        (pss_one (ps_set (i := 4) sc_l_draw.nd rfl (Or.inl rfl) (pe_ix (ix_listK (K := K) rfl) (pv 0) (pe_op op_mod (pv 3) (pe_callB (len_seqK (K := K) rfl) (by rfl) T.n_len PySem.boot_len (pa_cons (pv 0) pa_nil))) (fun _ _ => rfl))))
        pss_nil)
      (pss_cons (ps_set (i := 5) sc_l_draw.nd rfl (Or.inl rfl) (pe_op op_mod (pe_op op_add (pe_op op_add (pe_op op_add (pe_op op_mul (pv 4) pe_int) (pe_op op_mul (pe_op op_mul pe_int (pv 3)) (pv 3))) (pe_op op_mul pe_int (pv 3))) pe_int) pe_int))
      (pss_cons (ps_set (i := 6) sc_l_draw.nd rfl (Or.inl rfl) (pe_op op_mod (pe_op op_mul (pe_op op_mod (pe_op op_mul (pv 5) (pv 5)) pe_int) pe_int) pe_int))
      (pss_one (ps_ret (pe_op op_mod (pe_op op_fdiv (pe_op op_mod (pe_op op_mul (pv 6) (pv 6)) pe_int) pe_int) (pv 2)))))))))), ?_⟩
    walk_at "sy"
    rename_i H1 c1
    have hS1 := (hS.but c1.but).now
    have fin : ∀ x : Int, Q (.int (x % m)) H1 := fun x => q H1 _ c1 (Int.emod_nonneg _ (by omega)) (Int.emod_lt_of_pos _ hm)
    refine w_lenS hS1 ?_
    walk_at "sy"
    by_cases h0 : 0 < (ns.map V.int).length
    · refine iteDT (by omega) ?_
      walk_at "sy"
      refine w_lenS hS1 ?_
      have m0 := Int.emod_nonneg (k : Int) (show ((ns.map V.int).length : Int) ≠ 0 by omega)
      have m1 := Int.emod_lt_of_pos (k : Int) (show (0 : Int) < ((ns.map V.int).length : Int) by omega)
      walk_at "sy"
      obtain ⟨j, hj⟩ : ∃ j : Nat, (k : Int) % ((ns.map V.int).length : Int) = (j : Int) := ⟨_, (Int.toNat_of_nonneg m0).symm⟩
      have hjl : j < ns.length := by
        rw [hj, List.length_map] at m1
        omega
      refine w_ixS (v := .int ns[j]) hS1 ?_ ?_
      · rw [hj]
        exact atI_nat (by rw [List.getElem?_map, List.getElem?_eq_getElem hjl]; rfl)
      generalize ns[j] = z
      walk_at "sy"
      exact fin _
    · refine iteDF (by omega) ?_
      walk_at "sy"
      exact fin _
end
/-! ### data that stays: none, numbers, texts, tuples of such -/
inductive Dt where
  | non
  | int (i : Int)
  | str (s : Str)
  | tup (ds : List Dt)
mutual
def dpt : Dt → Nat
  | .tup ds => 1 + dpts ds
  | _ => 0
def dpts : List Dt → Nat
  | [] => 0
  | d :: ds => max (dpt d) (dpts ds)
end
mutual
def smallD : Dt → Prop
  | .tup ds => ds.length ≤ 1000 ∧ smallDs ds
  | _ => True
def smallDs : List Dt → Prop
  | [] => True
  | d :: ds => smallD d ∧ smallDs ds
end
mutual
def IsD (H : Hp) : Dt → V → Prop
  | .non, v => v = .non
  | .int i, v => v = .int i
  | .str s, v => v = .str s
  | .tup ds, v => ∃ p vs, v = .ref p ∧ H p = some (.tup vs) ∧ IsDs H ds vs
def IsDs (H : Hp) : List Dt → List V → Prop
  | [], vs => vs = []
  | d :: ds, vs => ∃ v r, vs = v :: r ∧ IsD H d v ∧ IsDs H ds r
end
mutual
theorem IsD.keep {H H' : Hp} (k : Keep H H') : ∀ {d : Dt} {v : V}, IsD H d v → IsD H' d v
  | .non, _, h => h
  | .int _, _, h => h
  | .str _, _, h => h
  | .tup _, _, ⟨p, vs, e, h, g⟩ => ⟨p, vs, e, k _ _ h trivial, IsDs.keep k g⟩
theorem IsDs.keep {H H' : Hp} (k : Keep H H') : ∀ {ds : List Dt} {vs : List V}, IsDs H ds vs → IsDs H' ds vs
  | [], _, h => h
  | _ :: _, _, ⟨v, r, e, h, g⟩ => ⟨v, r, e, IsD.keep k h, IsDs.keep k g⟩
end
theorem IsDs.len {H : Hp} : ∀ {ds : List Dt} {vs : List V}, IsDs H ds vs → vs.length = ds.length
  | [], _, h => by
    have h : _ = _ := h
    subst h
    rfl
  | _ :: ds, _, ⟨v, r, e, _, h2⟩ => by
    subst e
    simp [IsDs.len h2]
theorem IsDs.get {H : Hp} : ∀ {ds : List Dt} {vs : List V} {i : Nat} {d : Dt}, IsDs H ds vs → ds[i]? = some d → ∃ v, vs[i]? = some v ∧ IsD H d v
  | _ :: ds, _, 0, d, ⟨v, r, e, h1, _⟩, h => by
    subst e
    simp at h
    subst h
    exact ⟨v, rfl, h1⟩
  | _ :: ds, _, i + 1, d, ⟨v, r, e, _, h2⟩, h => by
    subst e
    obtain ⟨w, q1, q2⟩ := IsDs.get (i := i) h2 (by simpa using h)
    exact ⟨w, by simpa using q1, q2⟩
theorem IsDs.at {H : Hp} {ds : List Dt} {vs : List V} {i : Nat} {v : V} (h : IsDs H ds vs) (e : vs[i]? = some v) : ∃ d, ds[i]? = some d ∧ IsD H d v := by
  have hi := (List.getElem?_eq_some_iff.mp e).1
  rw [h.len] at hi
  obtain ⟨w, h1, h2⟩ := h.get (List.getElem?_eq_getElem hi)
  rw [e] at h1
  cases h1
  exact ⟨_, List.getElem?_eq_getElem hi, h2⟩
theorem IsDs.snoc {H : Hp} {d : Dt} {v : V} (h : IsD H d v) : ∀ {ds : List Dt} {vs : List V}, IsDs H ds vs → IsDs H (ds ++ [d]) (vs ++ [v])
  | [], _, e => by
    have e : _ = _ := e
    subst e
    exact ⟨v, [], rfl, h, rfl⟩
  | _ :: _, _, ⟨w, r, e, h1, h2⟩ => by
    subst e
    exact ⟨w, _, rfl, h1, IsDs.snoc h h2⟩
theorem dpt_mem : ∀ {ds : List Dt} {d : Dt}, d ∈ ds → dpt d ≤ dpts ds
  | a :: ds, d, h => by
    simp only [dpts]
    rcases List.mem_cons.mp h with e | h
    · subst e
      omega
    · have := dpt_mem h
      omega
theorem small_mem : ∀ {ds : List Dt} {d : Dt}, smallDs ds → d ∈ ds → smallD d
  | a :: ds, d, h, m => by
    rcases List.mem_cons.mp m with e | m
    · subst e
      exact h.1
    · exact small_mem h.2 m
/-! ### alike -/
section
variable {P : Program} {w : World} {K : PySem.W.Frag} {mg : Str → Option Value} {base : Heap}
def spAlike (n : Nat) : Sp := fun vs H Q _ => ∃ (v u : V) (d : Dt), vs = [v, u] ∧ IsD H d v ∧ IsD H d u ∧ dpt d < n ∧ smallD d ∧ ∀ H', Same H H' → Q (.bl true) H'
theorem use_alike {H : Hp} {Q : VK} {E : XK} {n : Nat} {v u : V} (d : Dt) (h1 : IsD H d v) (h2 : IsD H d u) (h3 : dpt d < n) (h4 : smallD d) (q : ∀ H', Same H H' → Q (.bl true) H') : spAlike n ([v, u] ++ []) H Q E := ⟨v, u, d, rfl, h1, h2, h3, h4, q⟩
theorem all_true : ∀ n : Nat, (List.replicate n true).all id = true
  | 0 => rfl
  | n + 1 => by simp [List.replicate_succ, all_true n]
theorem rep_snoc {n : Nat} : List.replicate (n + 1) (V.bl true) = List.replicate n (V.bl true) ++ [V.bl true] := List.replicate_succ'
theorem ok_l_alike (T : Tx K mg) : ∀ n : Nat, FnOk P w K mg base CX0 (n + 1) T.f_l_alike T.d_l_alike ["_law_found", "_law_due"] (spAlike n)
  | 0 => T.F_l_alike.ok sc_l_alike (fun vs H Q E ⟨_, _, _, _, _, _, h, _⟩ => absurd h (Nat.not_lt_zero _)) (fun cdv A outer s H vs Q E hr ⟨_, _, _, _, _, _, h, _⟩ => absurd h (Nat.not_lt_zero _))
  | n + 1 => by
    have ih := ok_l_alike T n
    refine T.F_l_alike.ok sc_l_alike (fun vs H Q E h => ?_) (fun cdv A outer s H vs Q E hr h => ?_)
    · obtain ⟨v, u, d, rfl, _⟩ := h
      rfl
    · obtain ⟨v, u, d, rfl, hv, hu, hd, hs, q⟩ := h
      refine ⟨_, (pss_cons (ps_if (pt_val (pe_callB (isiK (K := K) rfl) (by rfl) T.n_isinstance PyProof.Rows.boot_isinstance (pa_cons (pv 1) (pa_cons (pe_bltn (v := .ty "tuple") (by rfl) T.n_tuple PyProof.Rows.boot_tuple rfl) pa_nil))))
        (pss_cons (ps_if (PW.pt (pw_or (pt_not (pt_val (pe_callB (isiK (K := K) rfl) (by rfl) T.n_isinstance PyProof.Rows.boot_isinstance (pa_cons (pv 0) (pa_cons (pe_bltn (v := .ty "tuple") (by rfl) T.n_tuple PyProof.Rows.boot_tuple rfl) pa_nil))))) (pw_or1 (pt_cmpR op_ne (pe_callB (len_seqK (K := K) rfl) (by rfl) T.n_len PySem.boot_len (pa_cons (pv 0) pa_nil)) (pe_callB (len_seqK (K := K) rfl) (by rfl) T.n_len PySem.boot_len (pa_cons (pv 1) pa_nil)) (nomark _)))))
          (pss_one (ps_ret pe_bl))
          pss_nil)
        (pss_one (ps_ret (pe_callB (cr_allK (K := K) rfl rfl) (by rfl) T.n_all (by decide +kernel) (pa_cons (pe_lc (own := [("_law_one", 2), ("_law_other", 3)]) (tt := tYes) rfl sc_l_alike.nd (pi_zipAK (K := K) rfl (by rfl) T.n_zip (pa_cons (pv 0) (pa_cons (pv 1) pa_nil))) (blkOk_by (own := [("_law_one", 2), ("_law_other", 3)]) (N := ["_law_found", "_law_due", "_law_one", "_law_other"]) (sc := defScope s_l_alike) (by decide +kernel)) (fun _ _ _ _ _ => pg_tupK (K := K) (n := 2) rfl rfl (pgs_cons (pg_name (i := 2) sc_l_alike.nd rfl (Or.inl rfl)) (pgs_cons (pg_name (i := 3) sc_l_alike.nd rfl (Or.inl rfl)) pgs_nil))) (fun _ _ _ _ _ => pts_nil) (fun _ _ _ _ _ => (pe_call ih (hr.mono (by omega)) rfl T.m_l_alike T.F_l_alike.kp T.B_l_alike .nil pass0 (pa_cons (pv 2) (pa_cons (pv 3) pa_nil))))) pa_nil)))))
        pss_nil)
      (pss_cons (ps_if (pt_cmp (pc_isN (pv 1)))
        (pss_one (ps_ret (pe_cmp (pc_isN (pv 0)) rfl)))
        pss_nil)
      (pss_cons (ps_if (pt_val (pe_callB (isiK (K := K) rfl) (by rfl) T.n_isinstance PyProof.Rows.boot_isinstance (pa_cons (pv 1) (pa_cons (pe_bltn (v := .ty "int") (by rfl) T.n_int PyProof.Rows.boot_int rfl) pa_nil))))
        (pss_one (ps_ret (pe_and (pe_callB (isiK (K := K) rfl) (by rfl) T.n_isinstance PyProof.Rows.boot_isinstance (pa_cons (pv 0) (pa_cons (pe_bltn (v := .ty "int") (by rfl) T.n_int PyProof.Rows.boot_int rfl) pa_nil))) (pe_and (pe_not (pe_callB (isiK (K := K) rfl) (by rfl) T.n_isinstance PyProof.Rows.boot_isinstance (pa_cons (pv 0) (pa_cons (pe_bltn (v := .ty "bool") (by rfl) T.n_bool (by decide +kernel) rfl) pa_nil)))) (pe_one ((pe_cmpR op_eq (pv 0) (pv 1) (nomark _))))))))
        pss_nil)
      (pss_one (ps_ret (pe_and (pe_callB (isiK (K := K) rfl) (by rfl) T.n_isinstance PyProof.Rows.boot_isinstance (pa_cons (pv 0) (pa_cons (pe_bltn (v := .ty "str") (by rfl) T.n_str PyProof.Rows.boot_str rfl) pa_nil))) (pe_one ((pe_cmpR op_eq (pv 0) (pv 1) (nomark _)))))))))), ?_⟩
      cases d with
      | non =>
        obtain rfl : v = .non := hv
        obtain rfl : u = .non := hu
        walk_at "sy"
        exact q _ (Same.refl _)
      | int i =>
        obtain rfl : v = .int i := hv
        obtain rfl : u = .int i := hu
        walk_at "sy"
        rw [decide_eq_true rfl]
        exact q _ (Same.refl _)
      | str s =>
        obtain rfl : v = .str s := hv
        obtain rfl : u = .str s := hu
        walk_at "sy"
        rw [decide_eq_true rfl]
        exact q _ (Same.refl _)
      | tup ds =>
        obtain ⟨p, vs, rfl, hp, hvs⟩ := hv
        obtain ⟨r, us, rfl, hr', hus⟩ := hu
        have hl1 := hvs.len
        have hl2 := hus.len
        have hs1 := hs.1
        simp only [dpt] at hd
        walk_at "sy"
        refine k_lcZ vs us (by omega) (fun D i H2 => Same H H2 ∧ H2 D = some (.lst (List.replicate i (.bl true)))) (fun D H' n => ⟨n.same, n.at_⟩) (fun D i H2 h => ⟨SqT.of (h.1 _ _ hp), SqT.of (h.1 _ _ hr')⟩) ?_ ?_
        · rintro D hD i x y Tt H2 H3 hx hy ⟨sx, hDx⟩ nT
          obtain ⟨d, hd1, hd2⟩ := hvs.at hx
          obtain ⟨d', hd1', hd2'⟩ := hus.at hy
          rw [hd1] at hd1'
          cases hd1'
          have hm := List.mem_of_getElem? hd1
          have hdm := dpt_mem hm
          have hi := (List.getElem?_eq_some_iff.mp hx).1
          walk_at "sy"
          refine use_alike d (hd2.keep (by walk_at "kp")) (hd2'.keep (by walk_at "kp")) (by omega) (small_mem hs.2 hm) (fun H4 s4 => ?_)
          walk_at "sy"
          rename_i H5 c5
          refine ⟨c5.sameOwn (Same.trans (nT.same.trans s4) (Same.refl _) |> sx.trans) hD, ?_⟩
          rw [rep_snoc]
          exact c5.at_
        · rintro D hD H2 ⟨sx, hDx⟩
          walk_at "sy"
          refine w_all (bs := List.replicate vs.length true) (by rw [List.map_replicate]; exact hDx) ?_
          rw [all_true]
          exact q _ sx
end
/-! ### regions -/
/-- what stands, but these; nothing is freed -/
structure But (F : List Addr) (H H' : Hp) : Prop where
  get : ∀ b o, H b = some o → b ∉ F → H' b = some o
  free : ∀ b, H' b = none → H b = none
theorem But.refl (F : List Addr) (H : Hp) : But F H H := ⟨fun _ _ e _ => e, fun _ e => e⟩
theorem But.new {F : List Addr} {H H1 H2 : Hp} {p : Addr} {o : HO} (n : New p o H1 H2) (b : But F H H1) : But F H H2 := ⟨fun x u e m => n.get (b.get x u e m), fun x e => b.free x (n.same.free e)⟩
theorem But.same {F : List Addr} {H H1 H2 : Hp} (n : Same H1 H2) (b : But F H H1) : But F H H2 := ⟨fun x u e m => n _ _ (b.get x u e m), fun x e => b.free x (n.free e)⟩
theorem But.sbut {F : List Addr} {H H1 H2 : Hp} {p : Addr} {o : HO} (n : SameBut p H1 H2) (a : H2 p = some o) (b : But F H H1) (hp : p ∈ F ∨ H p = none) : But F H H2 := ⟨fun x u e m => n _ _ (b.get x u e m) (by
  rintro rfl
  rcases hp with hp | hp
  · exact m hp
  · rw [hp] at e
    cases e), fun x e => b.free x (by
    cases g : H1 x with
    | none => rfl
    | some u =>
      have := n x u g (by
        rintro rfl
        rw [a] at e
        cases e)
      rw [this] at e
      cases e)⟩
theorem But.chg {F : List Addr} {H H1 H2 : Hp} {p : Addr} {o u : HO} (n : Chg p o u H1 H2) (b : But F H H1) (hp : p ∈ F ∨ H p = none) : But F H H2 := b.sbut n.but n.at_ hp
theorem But.stays {K : PySem.W.Frag} {F : List Addr} {H0 H : Hp} {p a : Addr} {xs : List V} (h : ∀ H', (∀ b o, H0 b = some o → b ∉ F → H' b = some o) → SqL K H' a xs) (b : But F H0 H) (hp : p ∈ F ∨ H0 p = none) : Stays K H p a xs := fun H' s => h _ fun x o e m => s _ _ (b.get x o e m) (by
  rintro rfl
  rcases hp with hp | hp
  · exact m hp
  · rw [hp] at e
    cases e)
theorem But.keep {F : List Addr} {H H' : Hp} (b : But F H H') (h : ∀ a ∈ F, ∃ xs, H a = some (.lst xs)) : Keep H H' := fun x o e s => b.get x o e fun m => by
  obtain ⟨xs, g⟩ := h x m
  rw [e] at g
  cases g
  exact s
theorem But.mono {F G : List Addr} {H H' : Hp} (b : But F H H') (s : ∀ a ∈ F, a ∈ G) : But G H H' := ⟨fun x o e m => b.get x o e fun k => m (s x k), b.free⟩
theorem But.trans {F : List Addr} {H H1 H2 : Hp} (n : But F H1 H2) (b : But F H H1) : But F H H2 := ⟨fun x o e m => n.get x o (b.get x o e m) m, fun x e => b.free x (n.free x e)⟩
/-! ### boxes -/
def Sc (v : V) : Prop := v = .non ∨ ∃ n, v = .int n
def Bx (H : Hp) (l : Addr) (ps : List Addr) (bs : List (List V)) : Prop := H l = some (.lst (ps.map V.ref)) ∧ ps.length = bs.length ∧ ∀ (i : Nat) (p : Addr) (b : List V), ps[i]? = some p → bs[i]? = some b → H p = some (.lst b)
def GoodB (b : List V) : Prop := ∃ (r : Str) (vs : List V), b = .str r :: vs ∧ PyData.strOk r = true ∧ 1 ≤ vs.length ∧ vs.length ≤ 4 ∧ ∀ v ∈ vs, Sc v
theorem Bx.at {H : Hp} {l : Addr} {ps : List Addr} {bs : List (List V)} (h : Bx H l ps bs) {i : Nat} {b : List V} (e : bs[i]? = some b) : ∃ p, ps[i]? = some p ∧ p ∈ ps ∧ (ps.map V.ref)[i]? = some (.ref p) ∧ H p = some (.lst b) := by
  have hi := (List.getElem?_eq_some_iff.mp e).1
  have e2 : ps[i]? = some (ps[i]'(by rw [h.2.1]; exact hi)) := List.getElem?_eq_getElem _
  exact ⟨_, e2, List.mem_of_getElem? e2, by rw [List.getElem?_map, e2]; rfl, h.2.2 _ _ _ e2 e⟩
theorem Bx.frame {H H' : Hp} {l : Addr} {ps : List Addr} {bs : List (List V)} (h : Bx H l ps bs) (g : ∀ a o, a = l ∨ a ∈ ps → H a = some o → H' a = some o) : Bx H' l ps bs :=
  ⟨g _ _ (.inl rfl) h.1, h.2.1, fun i p b e1 e2 => g _ _ (.inr (List.mem_of_getElem? e1)) (h.2.2 i p b e1 e2)⟩
theorem Bx.add {H H' : Hp} {l p : Addr} {ps : List Addr} {bs : List (List V)} {b : List V} (h : Bx H l ps bs) (g : ∀ a o, a ∈ ps → H a = some o → H' a = some o) (hl : H' l = some (.lst (ps.map V.ref ++ [.ref p]))) (hp : H' p = some (.lst b)) : Bx H' l (ps ++ [p]) (bs ++ [b]) := by
  refine ⟨by rw [List.map_append]; exact hl, by simp [h.2.1], fun i q c e1 e2 => ?_⟩
  by_cases hi : i < ps.length
  · rw [List.getElem?_append_left hi] at e1
    rw [List.getElem?_append_left (by rw [← h.2.1]; exact hi)] at e2
    exact g _ _ (List.mem_of_getElem? e1) (h.2.2 i q c e1 e2)
  · have hb := h.2.1
    have h3 := (List.getElem?_eq_some_iff.mp e1).1
    simp only [List.length_append, List.length_cons, List.length_nil] at h3
    have e : i = ps.length := by omega
    subst e
    rw [List.getElem?_append_right (Nat.le_refl _), Nat.sub_self] at e1
    rw [hb, List.getElem?_append_right (Nat.le_refl _), Nat.sub_self] at e2
    simp at e1 e2
    subst e1 e2
    exact hp
theorem Bx.put {H H' : Hp} {l p : Addr} {ps : List Addr} {bs : List (List V)} {b : List V} {i : Nat} (h : Bx H l ps bs) (nd : ps.Nodup) (e : ps[i]? = some p) (g : ∀ a o, a = l ∨ a ∈ ps → a ≠ p → H a = some o → H' a = some o) (hlp : l ≠ p) (hp : H' p = some (.lst b)) : Bx H' l ps (bs.set i b) := by
  refine ⟨g _ _ (.inl rfl) hlp h.1, by simp [h.2.1], fun j q c e1 e2 => ?_⟩
  by_cases hij : j = i
  · subst hij
    rw [e] at e1
    cases e1
    rw [List.getElem?_set_self (by rw [← h.2.1]; exact (List.getElem?_eq_some_iff.mp e).1)] at e2
    cases e2
    exact hp
  · rw [List.getElem?_set_ne (fun z => hij z.symm)] at e2
    refine g _ _ (.inr (List.mem_of_getElem? e1)) (fun z => hij ?_) (h.2.2 j q c e1 e2)
    subst z
    obtain ⟨h1, h2⟩ := List.getElem?_eq_some_iff.mp e1
    obtain ⟨h3, h4⟩ := List.getElem?_eq_some_iff.mp e
    exact (List.getElem_inj nd).mp (h2.trans h4.symm)
theorem SameBut.of {f : Addr} {H H' : Hp} (s : Same H H') : SameBut f H H' := fun b o e _ => s b o e
section
variable {P : Program} {w : World} {K : PySem.W.Frag} {mg : Str → Option Value} {base : Heap}
def WAt (T : Tx K mg) (H : Hp) (x la : Addr) : Prop := ∃ dx, H x = some (.ins T.a_World dx [("boxes", .ref la)])
/-! the world's methods -/
def spInit (T : Tx K mg) : Sp := fun vs H Q _ => ∃ (x dx : Addr), vs = [.ref x] ∧ H x = some (.ins T.a_World dx []) ∧ ∀ (H' : Hp) (la : Addr), H la = none → H' la = some (.lst []) → H' x = some (.ins T.a_World dx [("boxes", .ref la)]) → SameBut x H H' → Q .non H'
theorem ok_World_init (T : Tx K mg) : FnOk P w K mg base CX0 1 T.f_World_init T.d_World_init ["self"] (spInit T) := by
  refine T.F_World_init.ok sc_World_init (fun vs H Q E h => ?_) (fun cdv A outer s H vs Q E hr h => ?_)
  · obtain ⟨x, dx, rfl, _⟩ := h
    rfl
  · obtain ⟨x, dx, rfl, hx, q⟩ := h
    refine ⟨_, (pss_one (ps_fld (pv 0) (pe_lst pa_nil) rfl)), ?_⟩
    walk_at "sy"
    rename_i la H1 n1
    have hx1 := n1.get hx
    refine ⟨x, _, dx, [], rfl, hx1, T.cl_World, T.na_World_boxes, by decide, ?_⟩
    have hne := n1.ne hx
    refine q _ la n1.free ?_ upd_same (fun b o e ne => by rw [upd_ne ne]; exact n1.get e)
    rw [upd_ne hne]
    exact n1.at_
def spMake (T : Tx K mg) : Sp := fun vs H Q _ => ∃ (x la a : Addr) (r : Str) (us xs : List V), vs = [.ref x, .str r, .ref a] ∧ WAt T H x la ∧ H la = some (.lst xs) ∧ H a = some (.lst us) ∧ xs.length ≤ 1000 ∧ us.length ≤ 1000 ∧
  ∀ (H' : Hp) (p : Addr), H p = none → H' p = some (.lst (.str r :: us)) → H' la = some (.lst (xs ++ [.ref p])) → SameBut la H H' → Q (.int (xs.length : Int)) H'
theorem ok_World_make (T : Tx K mg) : FnOk P w K mg base CX0 1 T.f_World_make T.d_World_make ["self", "record", "values"] (spMake T) := by
  refine T.F_World_make.ok sc_World_make (fun vs H Q E h => ?_) (fun cdv A outer s H vs Q E hr h => ?_)
  · obtain ⟨x, la, a, r, us, xs, rfl, _⟩ := h
    rfl
  · obtain ⟨x, la, a, r, us, xs, rfl, ⟨dx, hx⟩, hla, ha, hl1, hl2, q⟩ := h
    refine ⟨_, (pss_cons (ps_expr (pe_bm PySem.F.plainAttrs_list PySem.F.slot_list_append PySem.F.type_list_append mt_append (fldK (K := K) rfl (pv 0) rfl) (pa_cons (pe_op op_cat (pe_lst (pa_cons (pv 1) pa_nil)) (pe_callTy (list_ofK (K := K) rfl) (by rfl) T.n_list PyProof.Rows.boot_list (pa_cons (pv 2) pa_nil))) pa_nil)))
      (pss_one (ps_ret (pe_op op_sub (pe_callB (len_seqK (K := K) rfl) (by rfl) T.n_len PySem.boot_len (pa_cons (fldK (K := K) rfl (pv 0) rfl) pa_nil)) pe_int)))), ?_⟩
    have c1 := T.cl_World
    have c2 := T.na_World_boxes
    walk_at "sy"
    rename_i l1 H1 n1 l2 _ H2 n2 p H3 n3 H4 c4
    have e : (((xs ++ [V.ref p]).length : Nat) : Int) - 1 = (xs.length : Int) := by simp
    rw [e]
    refine q _ p ?_ (by walk_at "look") c4.at_ (fun b o e n => c4.but _ _ (n3.get (n2.get (n1.get e))) n)
    exact (n1.same.trans n2.same).free n3.free
def spRead (T : Tx K mg) : Sp := fun vs H Q _ => ∃ (x la p : Addr) (i j : Nat) (xs b : List V) (v : V), vs = [.ref x, .int (i : Int), .int (j : Int)] ∧ WAt T H x la ∧ H la = some (.lst xs) ∧ xs[i]? = some (.ref p) ∧ H p = some (.lst b) ∧ b[1 + j]? = some v ∧ Q v H
theorem ok_World_read (T : Tx K mg) : FnOk P w K mg base CX0 1 T.f_World_read T.d_World_read ["self", "box", "at"] (spRead T) := by
  refine T.F_World_read.ok sc_World_read (fun vs H Q E h => ?_) (fun cdv A outer s H vs Q E hr h => ?_)
  · obtain ⟨x, la, p, i, j, xs, b, v, rfl, _⟩ := h
    rfl
  · obtain ⟨x, la, p, i, j, xs, b, v, rfl, ⟨dx, hx⟩, hla, hi, hp, hj, q⟩ := h
    refine ⟨_, (pss_one (ps_ret (pe_ix (ix_listK (K := K) rfl) (pe_ix (ix_listK (K := K) rfl) (fldK (K := K) rfl (pv 0) rfl) (pv 1) (fun _ _ => rfl)) (pe_op op_add pe_int (pv 2)) (fun _ _ => rfl)))), ?_⟩
    have c1 := T.cl_World
    have c2 := T.na_World_boxes
    have e : atI b (1 + (j : Int)) = some v := by
      rw [show (1 : Int) + (j : Int) = ((1 + j : Nat) : Int) by omega]
      exact atI_nat hj
    walk_at "sy"
    exact q
theorem ixN_nat {n j : Nat} (h : j < n) : ixN n (j : Int) = some j := by
  unfold ixN
  rw [if_pos (by omega)]
  rw [if_pos (by omega)]
  simp
def spWrite (T : Tx K mg) : Sp := fun vs H Q _ => ∃ (x la p : Addr) (i j : Nat) (xs b : List V) (v : V), vs = [.ref x, .int (i : Int), .int (j : Int), v] ∧ WAt T H x la ∧ H la = some (.lst xs) ∧ xs[i]? = some (.ref p) ∧ H p = some (.lst b) ∧ 1 + j < b.length ∧ ∀ H', Chg p (.lst b) (.lst (b.set (1 + j) v)) H H' → Q .non H'
theorem ok_World_write (T : Tx K mg) : FnOk P w K mg base CX0 1 T.f_World_write T.d_World_write ["self", "box", "at", "value"] (spWrite T) := by
  refine T.F_World_write.ok sc_World_write (fun vs H Q E h => ?_) (fun cdv A outer s H vs Q E hr h => ?_)
  · obtain ⟨x, la, p, i, j, xs, b, v, rfl, _⟩ := h
    rfl
  · obtain ⟨x, la, p, i, j, xs, b, v, rfl, ⟨dx, hx⟩, hla, hi, hp, hj, q⟩ := h
    refine ⟨_, (pss_one (ps_asg (pv 3) (pg_sub (pe_ix (ix_listK (K := K) rfl) (fldK (K := K) rfl (pv 0) rfl) (pv 1) (fun _ _ => rfl)) (pe_op op_add pe_int (pv 2)) set_list))), ?_⟩
    have c1 := T.cl_World
    have c2 := T.na_World_boxes
    have e : ixN b.length (1 + (j : Int)) = some (1 + j) := by
      rw [show (1 : Int) + (j : Int) = ((1 + j : Nat) : Int) by omega]
      exact ixN_nat hj
    walk_at "sy"
    exact q _ (by assumption)
def spMany (T : Tx K mg) : Sp := fun vs H Q _ => ∃ (x la : Addr) (xs : List V), vs = [.ref x] ∧ WAt T H x la ∧ H la = some (.lst xs) ∧ Q (.int (xs.length : Int)) H
theorem ok_World_many (T : Tx K mg) : FnOk P w K mg base CX0 1 T.f_World_many T.d_World_many ["self"] (spMany T) := by
  refine T.F_World_many.ok sc_World_many (fun vs H Q E h => ?_) (fun cdv A outer s H vs Q E hr h => ?_)
  · obtain ⟨x, la, xs, rfl, _⟩ := h
    rfl
  · obtain ⟨x, la, xs, rfl, ⟨dx, hx⟩, hla, q⟩ := h
    refine ⟨_, (pss_one (ps_ret (pe_callB (len_seqK (K := K) rfl) (by rfl) T.n_len PySem.boot_len (pa_cons (fldK (K := K) rfl (pv 0) rfl) pa_nil)))), ?_⟩
    have c1 := T.cl_World
    have c2 := T.na_World_boxes
    walk_at "sy"
    exact q
def spInside (T : Tx K mg) : Sp := fun vs H Q _ => ∃ (x la p : Addr) (i : Nat) (xs b : List V), vs = [.ref x, .int (i : Int)] ∧ WAt T H x la ∧ H la = some (.lst xs) ∧ xs[i]? = some (.ref p) ∧ H p = some (.lst b) ∧ ∀ (t : Addr) (H' : Hp), New t (.tup b) H H' → Q (.ref t) H'
theorem ok_World_inside (T : Tx K mg) : FnOk P w K mg base CX0 1 T.f_World_inside T.d_World_inside ["self", "box"] (spInside T) := by
  refine T.F_World_inside.ok sc_World_inside (fun vs H Q E h => ?_) (fun cdv A outer s H vs Q E hr h => ?_)
  · obtain ⟨x, la, p, i, xs, b, rfl, _⟩ := h
    rfl
  · obtain ⟨x, la, p, i, xs, b, rfl, ⟨dx, hx⟩, hla, hi, hp, q⟩ := h
    refine ⟨_, (pss_one (ps_ret (pe_callTy (tuple_ofK (K := K) rfl) (by rfl) T.n_tuple PyProof.Rows.boot_tuple (pa_cons (pe_ix (ix_listK (K := K) rfl) (fldK (K := K) rfl (pv 0) rfl) (pv 1) (fun _ _ => rfl)) pa_nil)))), ?_⟩
    have c1 := T.cl_World
    have c2 := T.na_World_boxes
    walk_at "sy"
    exact q _ _ (by assumption)
/-! the law's values -/
def spValue (K : PySem.W.Frag) : Sp := fun vs H Q _ => ∃ (a tp : Addr) (ns : List Int) (k m : Nat), vs = [.ref a, .ref tp, .int (m : Int)] ∧ Stays K H tp a (ns.map V.int) ∧ H tp = some (.lst [.int (k : Int)]) ∧ k ≤ 100000 ∧
  ∀ (H' : Hp) (v : V) (k' : Nat), Sc v → k' ≤ k + 3 → H' tp = some (.lst [.int (k' : Int)]) → SameBut tp H H' → Q v H'
theorem ok_l_value (T : Tx K mg) : FnOk P w K mg base CX0 2 T.f_l_value T.d_l_value ["_law_script", "_law_tape", "_law_many"] (spValue K) := by
  refine T.F_l_value.ok sc_l_value (fun vs H Q E h => ?_) (fun cdv A outer s H vs Q E hr h => ?_)
  · obtain ⟨a, tp, ns, k, m, rfl, _⟩ := h
    rfl
  · obtain ⟨a, tp, ns, k, m, rfl, hS, htp, hk, q⟩ := h
    refine ⟨_, (pss_cons (ps_set (i := 3) sc_l_value.nd rfl (Or.inl rfl) (pe_call (ok_l_draw T) (hr.mono (by omega)) rfl T.m_l_draw T.F_l_draw.kp T.B_l_draw .nil pass0 (pa_cons (pv 0) (pa_cons (pv 1) (pa_cons pe_int pa_nil)))))
      (pss_cons (ps_if (pt_cmpR op_eq (pv 3) pe_int (nomark _))
        (pss_one (ps_ret pe_non))
        pss_nil)
      (pss_cons (ps_if (PW.pt (pw_and (pt_cmpR op_eq (pv 3) pe_int (nomark _)) (pw_and1 (pt_cmpR op_gt (pv 2) pe_int (nomark _)))))
        (pss_one (ps_ret (pe_call (ok_l_draw T) (hr.mono (by omega)) rfl T.m_l_draw T.F_l_draw.kp T.B_l_draw .nil pass0 (pa_cons (pv 0) (pa_cons (pv 1) (pa_cons (pv 2) pa_nil))))))
        pss_nil)
      (pss_one (ps_ret (pe_ix (ix_listK (K := K) rfl) (pe_lst (pa_cons pe_int (pa_cons pe_int (pa_cons pe_int (pa_cons (pe_call (ok_l_draw T) (hr.mono (by omega)) rfl T.m_l_draw T.F_l_draw.kp T.B_l_draw .nil pass0 (pa_cons (pv 0) (pa_cons (pv 1) (pa_cons pe_int pa_nil)))) pa_nil))))) (pe_call (ok_l_draw T) (hr.mono (by omega)) rfl T.m_l_draw T.F_l_draw.kp T.B_l_draw .nil pass0 (pa_cons (pv 0) (pa_cons (pv 1) (pa_cons pe_int pa_nil)))) (fun _ _ => rfl))))))), ?_⟩
    walk_at "sy"
    refine use_draw hS htp (by omega) (by decide) (fun H1 d c1 h0 h1 => ?_)
    have hS1 := hS.but c1.but
    walk_at "sy"
    by_cases e0 : d = 0
    · walk_at "sy"
      exact q _ _ _ (.inl rfl) (by omega) c1.at_ c1.but
    · walk_at "sy"
      by_cases e1 : d = 1
      · by_cases e2 : 0 < m
        · walk_at "sy"
          refine use_draw hS1 c1.at_ (by omega) (by omega) (fun H2 d2 c2 _ _ => ?_)
          walk_at "sy"
          exact q _ _ _ (.inr ⟨_, rfl⟩) (by omega) c2.at_ (c2.butStep c1.but)
        · walk_at "sy"
          refine use_draw hS1 c1.at_ (by omega) (by omega) (fun H2 d2 c2 _ _ => ?_)
          walk_at "sy"
          rename_i l3 H3 n3
          have hS3 := (hS1.but c2.but).but (SameBut.of n3.same)
          refine use_draw hS3 (by walk_at "look") (by omega) (by decide) (fun H4 d4 c4 g0 g1 => ?_)
          have b4 : SameBut tp H H4 := c4.butStep (butStep n3.same (c2.butStep c1.but))
          have g : d4 = 0 ∨ d4 = 1 ∨ d4 = 2 ∨ d4 = 3 := by omega
          rcases g with rfl | rfl | rfl | rfl <;> (walk_at "sy"; exact q _ _ _ (.inr ⟨_, rfl⟩) (by omega) c4.at_ b4)
      · walk_at "sy"
        refine use_draw hS1 c1.at_ (by omega) (by omega) (fun H2 d2 c2 _ _ => ?_)
        walk_at "sy"
        rename_i l3 H3 n3
        have hS3 := (hS1.but c2.but).but (SameBut.of n3.same)
        refine use_draw hS3 (by walk_at "look") (by omega) (by decide) (fun H4 d4 c4 g0 g1 => ?_)
        have b4 : SameBut tp H H4 := c4.butStep (butStep n3.same (c2.butStep c1.but))
        have g : d4 = 0 ∨ d4 = 1 ∨ d4 = 2 ∨ d4 = 3 := by omega
        rcases g with rfl | rfl | rfl | rfl <;> (walk_at "sy"; exact q _ _ _ (.inr ⟨_, rfl⟩) (by omega) c4.at_ b4)
end
local macro_rules | `(tactic| walk_at "mem") => `(tactic| first
  | exact .inl (by assumption)
  | exact .inr (by assumption)
  | exact .inr (New.free (by assumption))
  | exact .inr (But.free (by walk_at "bf") _ (New.free (by assumption))))
local macro_rules | `(tactic| walk_at "bf") => `(tactic| first
  | exact But.refl _ _
  | assumption
  | exact But.new (by assumption) (by walk_at "bf")
  | exact But.chg (by assumption) (by walk_at "bf") (by walk_at "mem")
  | exact But.same (by assumption) (by walk_at "bf")
  | exact But.sbut (by assumption) (by assumption) (by walk_at "bf") (by walk_at "mem"))
def scD : V → PyData
  | .int n => .int n
  | .str s => .str s
  | _ => .none
def bxD (b : List V) : PyData := .list (b.map scD)
section
variable {P : Program} {w : World} {K : PySem.W.Frag} {mg : Str → Option Value} {base : Heap}
def ScS (v : V) : Prop := Sc v ∨ ∃ s, v = .str s ∧ PyData.strOk s = true
theorem scD_dp {H : Hp} {v : V} (h : ScS v) : Dp K H v (scD v) := by
  rcases h with (rfl | ⟨n, rfl⟩) | ⟨s, rfl, _⟩
  · exact .non
  · exact .int n
  · exact .str s
theorem scD_dps {H : Hp} : ∀ {b : List V}, (∀ v ∈ b, ScS v) → DpAll K H b (b.map scD)
  | [], _ => .nil
  | v :: b, h => .cons (scD_dp (h v (List.mem_cons_self ..))) (scD_dps fun x hx => h x (List.mem_cons_of_mem _ hx))
theorem GoodB.all {b : List V} (h : GoodB b) : ∀ v ∈ b, ScS v := by
  obtain ⟨r, vs, rfl, k, _, _, h⟩ := h
  intro v hv
  rcases List.mem_cons.mp hv with rfl | hv
  · exact .inr ⟨r, rfl, k⟩
  · exact .inl (h v hv)
theorem scD_lay : ∀ b : List V, (∀ v ∈ b, ScS v) → PyData.canLayAll0 (b.map scD) = true ∧ PyData.depthAll (b.map scD) ≤ 1
  | [], _ => by simp [PyData.canLayAll0, PyData.depthAll]
  | v :: b, g => by
    obtain ⟨h1, h2⟩ := scD_lay b fun x hx => g x (List.mem_cons_of_mem _ hx)
    have h3 : (scD v).canLay0 = true ∧ (scD v).depth ≤ 1 := by
      rcases g v (List.mem_cons_self ..) with (rfl | ⟨n, rfl⟩) | ⟨s, rfl, k⟩
      · simp [scD, PyData.canLay0, PyData.depth]
      · simp [scD, PyData.canLay0, PyData.depth]
      · simp [scD, PyData.canLay0, PyData.depth, k]
    simp only [List.map_cons, PyData.canLayAll0, PyData.depthAll, h1, h3.1, Bool.and_self, true_and]
    omega
theorem bxD_lay {b : List V} (g : ∀ v ∈ b, ScS v) : (bxD b).canLay0 = true ∧ (bxD b).depth ≤ 2 := by
  obtain ⟨h1, h2⟩ := scD_lay b g
  unfold bxD
  simp only [PyData.canLay0, PyData.depth]
  exact ⟨h1, by omega⟩
theorem bxD_sh {b : List V} (g : ∀ v ∈ b, ScS v) : SeqAt.shaped (bxD b) = true := shapedOf (bxD_lay g).1 (Nat.le_trans (bxD_lay g).2 (by decide))
theorem bxsD_lay : ∀ bs : List (List V), (∀ b ∈ bs, GoodB b) → PyData.canLayAll0 (bs.map bxD) = true ∧ PyData.depthAll (bs.map bxD) ≤ 2
  | [], _ => by simp [PyData.canLayAll0, PyData.depthAll]
  | b :: bs, g => by
    obtain ⟨h1, h2⟩ := bxsD_lay bs fun x hx => g x (List.mem_cons_of_mem _ hx)
    obtain ⟨h3, h4⟩ := bxD_lay (g b (List.mem_cons_self ..)).all
    simp only [List.map_cons, PyData.canLayAll0, PyData.depthAll, h1, h3, Bool.and_self, true_and]
    omega
theorem bxsD_sh {bs : List (List V)} (g : ∀ b ∈ bs, GoodB b) : SeqAt.shaped (.list (bs.map bxD)) = true := shapedOf (by simp only [PyData.canLay0]; exact (bxsD_lay bs g).1) (by
  have := (bxsD_lay bs g).2
  simp only [PyData.depth]
  omega)
theorem bx_dps {H : Hp} : ∀ {ps : List Addr} {bs : List (List V)}, ps.length = bs.length → (∀ (i : Nat) (p : Addr) (b : List V), ps[i]? = some p → bs[i]? = some b → H p = some (.lst b)) → (∀ b ∈ bs, GoodB b) → DpAll K H (ps.map V.ref) (bs.map bxD)
  | [], [], _, _, _ => .nil
  | [], _ :: _, h, _, _ => by cases h
  | _ :: _, [], h, _, _ => by cases h
  | p :: ps, b :: bs, h, g, k => .cons (.lst (SqL.of (g 0 p b rfl rfl)) (scD_dps (k b (List.mem_cons_self ..)).all)) (bx_dps (by simpa using h) (fun i q c e1 e2 => g (i + 1) q c (by simpa using e1) (by simpa using e2)) fun c hc => k c (List.mem_cons_of_mem _ hc))
theorem Bx.dp {H : Hp} {l : Addr} {ps : List Addr} {bs : List (List V)} (h : Bx H l ps bs) (g : ∀ b ∈ bs, GoodB b) : Dp K H (.ref l) (.list (bs.map bxD)) := .lst (SqL.of h.1) (bx_dps h.2.1 h.2.2 g)
theorem eqv_nil (bs : List (List V)) : PyData.eqv (.list (bs.map bxD)) (.list []) = bs.isEmpty := by
  cases bs <;> simp [PyData.eqv, PyData.eqvAll]
def Rg (tp la lb : Addr) (ps qs : List Addr) : List Addr := tp :: la :: lb :: (ps ++ qs)
def spDone (T : Tx K mg) : Sp := fun vs H Q _ => ∃ (a tp x la lb : Addr) (ns : List Int) (k : Nat) (ps qs : List Addr) (bs : List (List V)), vs = [.ref a, .ref tp, .ref x, .ref lb] ∧ WAt T H x la ∧ (∀ H', (∀ b o, H b = some o → b ∉ Rg tp la lb ps qs → H' b = some o) → SqL K H' a (ns.map V.int)) ∧
  H tp = some (.lst [.int (k : Int)]) ∧ k ≤ 50000 ∧ Bx H la ps bs ∧ Bx H lb qs bs ∧ (Rg tp la lb ps qs).Nodup ∧ (∀ b ∈ bs, GoodB b) ∧ bs.length ≤ 100 ∧
  ∀ (H' : Hp) (k' : Nat) (ps' qs' : List Addr) (bs' : List (List V)), But (Rg tp la lb ps qs) H H' → H' tp = some (.lst [.int (k' : Int)]) → k' ≤ k + 30 → Bx H' la ps' bs' → Bx H' lb qs' bs' → (Rg tp la lb ps' qs').Nodup →
    (∀ a ∈ ps' ++ qs', a ∈ ps ++ qs ∨ H a = none) → (∀ b ∈ bs', GoodB b) → bs'.length ≤ bs.length + 1 → Q (.bl true) H'
structure Apart (tp la lb : Addr) (ps qs : List Addr) : Prop where
  tl : tp ≠ la
  tb : tp ≠ lb
  lb_ : la ≠ lb
  tps : ∀ p ∈ ps, p ≠ tp ∧ p ≠ la ∧ p ≠ lb
  tqs : ∀ p ∈ qs, p ≠ tp ∧ p ≠ la ∧ p ≠ lb
  np : ps.Nodup
  nq : qs.Nodup
  pq : ∀ p ∈ ps, ∀ q ∈ qs, p ≠ q
theorem Apart.iff {tp la lb : Addr} {ps qs : List Addr} : (Rg tp la lb ps qs).Nodup ↔ Apart tp la lb ps qs := by
  unfold Rg
  simp only [List.nodup_cons, List.nodup_append, List.mem_cons, List.mem_append, not_or]
  constructor
  · rintro ⟨⟨h1, h2, h3, h4⟩, ⟨h5, h6, h7⟩, ⟨h8, h9⟩, h10, h11, h12⟩
    exact ⟨h1, h2, h5, fun p hp => ⟨fun e => h3 (e ▸ hp), fun e => h6 (e ▸ hp), fun e => h8 (e ▸ hp)⟩, fun p hp => ⟨fun e => h4 (e ▸ hp), fun e => h7 (e ▸ hp), fun e => h9 (e ▸ hp)⟩, h10, h11, h12⟩
  · rintro ⟨h1, h2, h3, h4, h5, h6, h7, h8⟩
    exact ⟨⟨h1, h2, fun h => (h4 _ h).1 rfl, fun h => (h5 _ h).1 rfl⟩, ⟨h3, fun h => (h4 _ h).2.1 rfl, fun h => (h5 _ h).2.1 rfl⟩, ⟨fun h => (h4 _ h).2.2 rfl, fun h => (h5 _ h).2.2 rfl⟩, h6, h7, h8⟩
theorem ok_l_done (T : Tx K mg) : FnOk P w K mg base CX0 6 T.f_l_done T.d_l_done ["_law_script", "_law_tape", "_law_world", "_law_boxes"] (spDone T) := by
  refine T.F_l_done.ok sc_l_done (fun vs H Q E h => ?_) (fun cdv A outer s H vs Q E hr h => ?_)
  · obtain ⟨a, tp, x, la, lb, ns, k, ps, qs, bs, rfl, _⟩ := h
    rfl
  · obtain ⟨a, tp, x, la, lb, ns, k, ps, qs, bs, rfl, ⟨dx, hx⟩, hS, htp, hk, hA, hB, hnd, hgood, hlen, q⟩ := h
    refine ⟨_, (pss_cons (ps_set (i := 4) sc_l_done.nd rfl (Or.inl rfl) (pe_call (ok_l_draw T) (hr.mono (by omega)) rfl T.m_l_draw T.F_l_draw.kp T.B_l_draw .nil pass0 (pa_cons (pv 0) (pa_cons (pv 1) (pa_cons pe_int pa_nil)))))
      (pss_cons (ps_if (PW.pt (pw_or (pt_cmpR op_eq (pv 4) pe_int (nomark _)) (pw_or1 (pt_cmpR (eqDK (K := K) rfl hr.units) (pv 3) (pe_lst pa_nil) (nomark _)))))
        (pss_cons (ps_set (i := 5) sc_l_done.nd rfl (Or.inl rfl) (pe_ix (ix_listK (K := K) rfl) (pe_lst (pa_cons pe_str (pa_cons pe_str (pa_cons pe_str pa_nil)))) (pe_call (ok_l_draw T) (hr.mono (by omega)) rfl T.m_l_draw T.F_l_draw.kp T.B_l_draw .nil pass0 (pa_cons (pv 0) (pa_cons (pv 1) (pa_cons pe_int pa_nil)))) (fun _ _ => rfl)))
        (pss_cons (ps_setLc (i := 6) (own := [("_law_k", 11)]) (g := gName 11) (tt := tYes) rfl sc_l_done.nd rfl rfl (sw_true rfl rfl rfl (by decide +kernel)) (pi_range1 rfl T.n_range (pa_cons (pe_op op_add pe_int (pe_call (ok_l_draw T) (hr.mono (by omega)) rfl T.m_l_draw T.F_l_draw.kp T.B_l_draw .nil pass0 (pa_cons (pv 0) (pa_cons (pv 1) (pa_cons pe_int pa_nil))))) pa_nil)) (blkOk_by (own := [("_law_k", 11)]) (N := ["_law_script", "_law_tape", "_law_world", "_law_boxes", "_law_way", "_law_record", "_law_values", "_law_put_in", "_law_found", "_law_box", "_law_at", "_law_k"]) (sc := defScope s_l_done) (by decide +kernel)) (fun _ _ _ _ _ => pg_name (i := 11) sc_l_done.nd rfl (Or.inl rfl)) (fun _ _ _ _ _ => pts_nil) (fun _ _ _ _ _ => (pe_call (ok_l_value T) (hr.mono (by omega)) rfl T.m_l_value T.F_l_value.kp T.B_l_value .nil pass0 (pa_cons (pv 0) (pa_cons (pv 1) (pa_cons (pe_op op_add (pe_callB (len_seqK (K := K) rfl) (by rfl) T.n_len PySem.boot_len (pa_cons (pv 3) pa_nil)) pe_int) pa_nil))))))
        (pss_cons (ps_set (i := 7) sc_l_done.nd rfl (Or.inl rfl) (pe_callTy (list_ofK (K := K) rfl) (by rfl) T.n_list PyProof.Rows.boot_list (pa_cons (pv 6) pa_nil)))
        (pss_cons (ps_expr (pe_bm PySem.F.plainAttrs_list PySem.F.slot_list_append PySem.F.type_list_append mt_append (pv 3) (pa_cons (pe_op op_cat (pe_lst (pa_cons (pv 5) pa_nil)) (pv 6)) pa_nil)))
        (pss_cons (ps_set (i := 8) sc_l_done.nd rfl (Or.inl rfl) (pe_meth (pv 2) T.cl_World T.M_World_make (ok_World_make T) (hr.mono (by omega)) T.B_World_make .nil pass0 (pa_cons (pv 5) (pa_cons (pv 7) pa_nil))))
        (pss_cons (ps_asg pe_int (pg_sub (pv 7) pe_int set_list))
        (pss_one (ps_ret (pe_and (pe_call (ok_l_alike T 3) (hr.mono (by omega)) rfl T.m_l_alike T.F_l_alike.kp T.B_l_alike .nil pass0 (pa_cons (pv 8) (pa_cons (pe_op op_sub (pe_callB (len_seqK (K := K) rfl) (by rfl) T.n_len PySem.boot_len (pa_cons (pv 3) pa_nil)) pe_int) pa_nil))) (pe_one (pe_cmpR (eqDK (K := K) rfl hr.units) (pe_slice (sl_listK (K := K) rfl) (pv 7) (po_some pe_int) po_none) (pe_slice (sl_listK (K := K) rfl) (pv 6) (po_some pe_int) po_none) (nomark _))))))))))))
        pss_nil)
      (pss_cons (ps_set (i := 9) sc_l_done.nd rfl (Or.inl rfl) (pe_call (ok_l_draw T) (hr.mono (by omega)) rfl T.m_l_draw T.F_l_draw.kp T.B_l_draw .nil pass0 (pa_cons (pv 0) (pa_cons (pv 1) (pa_cons (pe_callB (len_seqK (K := K) rfl) (by rfl) T.n_len PySem.boot_len (pa_cons (pv 3) pa_nil)) pa_nil)))))
      (pss_cons (ps_set (i := 10) sc_l_done.nd rfl (Or.inl rfl) (pe_call (ok_l_draw T) (hr.mono (by omega)) rfl T.m_l_draw T.F_l_draw.kp T.B_l_draw .nil pass0 (pa_cons (pv 0) (pa_cons (pv 1) (pa_cons (pe_op op_sub (pe_callB (len_seqK (K := K) rfl) (by rfl) T.n_len PySem.boot_len (pa_cons (pe_ix (ix_listK (K := K) rfl) (pv 3) (pv 9) (fun _ _ => rfl)) pa_nil)) pe_int) pa_nil)))))
      (pss_cons (ps_if (pt_cmpR op_eq (pv 4) pe_int (nomark _))
        (pss_one (ps_ret (pe_call (ok_l_alike T 3) (hr.mono (by omega)) rfl T.m_l_alike T.F_l_alike.kp T.B_l_alike .nil pass0 (pa_cons (pe_meth (pv 2) T.cl_World T.M_World_read (ok_World_read T) (hr.mono (by omega)) T.B_World_read .nil pass0 (pa_cons (pv 9) (pa_cons (pv 10) pa_nil))) (pa_cons (pe_ix (ix_listK (K := K) rfl) (pe_ix (ix_listK (K := K) rfl) (pv 3) (pv 9) (fun _ _ => rfl)) (pe_op op_add pe_int (pv 10)) (fun _ _ => rfl)) pa_nil)))))
        pss_nil)
      (pss_cons (ps_asg (pe_call (ok_l_value T) (hr.mono (by omega)) rfl T.m_l_value T.F_l_value.kp T.B_l_value .nil pass0 (pa_cons (pv 0) (pa_cons (pv 1) (pa_cons (pe_callB (len_seqK (K := K) rfl) (by rfl) T.n_len PySem.boot_len (pa_cons (pv 3) pa_nil)) pa_nil)))) (pg_sub (pe_ix (ix_listK (K := K) rfl) (pv 3) (pv 9) (fun _ _ => rfl)) (pe_op op_add pe_int (pv 10)) set_list))
      (pss_cons (ps_expr (pe_meth (pv 2) T.cl_World T.M_World_write (ok_World_write T) (hr.mono (by omega)) T.B_World_write .nil pass0 (pa_cons (pv 9) (pa_cons (pv 10) (pa_cons (pe_ix (ix_listK (K := K) rfl) (pe_ix (ix_listK (K := K) rfl) (pv 3) (pv 9) (fun _ _ => rfl)) (pe_op op_add pe_int (pv 10)) (fun _ _ => rfl)) pa_nil)))))
      (pss_one (ps_ret pe_bl))))))))), ?_⟩
    have ap := Apart.iff.mp hnd
    have hla := hA.1
    have hlb := hB.1
    have t1 := ap.tl
    have t2 := ap.tb
    have t3 := ap.lb_
    have hpl : (ps.map V.ref).length = bs.length := by rw [List.length_map]; exact hA.2.1
    have hql : (qs.map V.ref).length = bs.length := by rw [List.length_map]; exact hB.2.1
    have hpl2 := hA.2.1
    have hql2 := hB.2.1
    have nxt : x ≠ tp := ne_of hx htp (by intro z; cases z)
    have nxl : x ≠ la := ne_of hx hla (by intro z; cases z)
    have nxb : x ≠ lb := ne_of hx hlb (by intro z; cases z)
    have mono3 : ∀ a ∈ [tp, la, lb], a ∈ Rg tp la lb ps qs := fun a ha => by
      simp only [List.mem_cons, List.not_mem_nil, or_false] at ha
      simp only [Rg, List.mem_cons]
      rcases ha with h | h | h <;> simp [h]
    have hS3 : ∀ H', (∀ b o, H b = some o → b ∉ [tp, la, lb] → H' b = some o) → SqL K H' a (ns.map V.int) := fun H' h => hS H' fun b o e m => h b o e fun k => m (mono3 b k)
    have m1 : tp ∈ [tp, la, lb] := by simp
    have m2 : la ∈ [tp, la, lb] := by simp
    have m3 : lb ∈ [tp, la, lb] := by simp
    have hF3 : ∀ a ∈ [tp, la, lb], ∃ xs, H a = some (.lst xs) := fun a ha => by
      simp only [List.mem_cons, List.not_mem_nil, or_false] at ha
      rcases ha with rfl | rfl | rfl
      · exact ⟨_, htp⟩
      · exact ⟨_, hla⟩
      · exact ⟨_, hlb⟩
    walk_at "sy"
    refine use_draw (But.stays hS3 (by walk_at "bf") (by walk_at "mem")) htp (by omega) (by decide) (fun H1 d c1 h0 h1 => ?_)
    walk_at "sy"
    by_cases e0 : d = 0
    · walk_at "sy"
      refine use_draw (But.stays hS3 (by walk_at "bf") (by walk_at "mem")) (by walk_at "look") (by omega) (by decide) (fun Ha da ca ga0 ga1 => ?_)
      obtain ⟨r, hr1, hr2⟩ : ∃ r, atI [V.str "pair", V.str "list", V.str "a"] da = some (.str r) ∧ PyData.strOk r = true := by
        have g : da = 0 ∨ da = 1 ∨ da = 2 := by omega
        rcases g with rfl | rfl | rfl
        · exact ⟨_, rfl, by decide +kernel⟩
        · exact ⟨_, rfl, by decide +kernel⟩
        · exact ⟨_, rfl, by decide +kernel⟩
      walk_at "sy"
      refine use_draw (But.stays hS3 (by walk_at "bf") (by walk_at "mem")) (by walk_at "look") (by omega) (by decide) (fun Hb db cb gb0 gb1 => ?_)
      obtain ⟨nd, rfl⟩ : ∃ nd : Nat, db = nd := Int.eq_ofNat_of_zero_le gb0
      have bb : But [tp, la, lb] H Hb := by walk_at "bf"
      have tb := cb.at_
      have lab : Hb la = some (.lst (ps.map V.ref)) := by walk_at "look"
      have lbb : Hb lb = some (.lst (qs.map V.ref)) := by walk_at "look"
      walk_at "sy"
      refine k_lcR (fun D i Hx => ∃ (us : List V) (kx : Nat), SameBut tp Hb Hx ∧ Hx tp = some (.lst [.int (kx : Int)]) ∧ kx ≤ k + 3 + 3 * i ∧ Hx D = some (.lst us) ∧ us.length = i ∧ ∀ v ∈ us, Sc v) (fun D Hx n => ⟨[], _, SameBut.of n.same, n.get tb, by omega, n.at_, rfl, fun v hv => by cases hv⟩) ?_ ?_
      · rintro D hD i Hx hi ⟨us, kx, sx, tx, hkx, dx', ul, usc⟩
        have lbx : Hx lb = some (.lst (qs.map V.ref)) := sx _ _ lbb (Ne.symm t2)
        have nDt : D ≠ tp := (ne_of_none tb hD).symm
        walk_at "sy"
        refine ⟨a, tp, ns, kx, (qs.map V.ref).length + 1, rfl, But.stays hS3 (But.sbut sx tx bb (.inl m1)) (.inl m1), tx, by omega, fun Hy v k' hv hk' ty sy => ?_⟩
        have dy : Hy D = some (.lst us) := sy _ _ dx' nDt
        walk_at "sy"
        rename_i Hz cz
        refine ⟨us ++ [v], k', fun x o e n => cz.but _ _ (sy _ _ (sx _ _ e n) n) (ne_of_none e hD), cz.get ty (Ne.symm nDt), by omega, cz.at_, by simp [ul], fun u hu => ?_⟩
        rcases List.mem_append.mp hu with hu | hu
        · exact usc u hu
        · obtain rfl : u = v := by simpa using hu
          exact hv
      · rintro D hD Hx ⟨us, kx, sx, tx, hkx, dx', ul, usc⟩
        have hul : us.length = nd + 1 := by omega
        have nDt : D ≠ tp := (ne_of_none tb hD).symm
        have nDa : D ≠ la := (ne_of_none lab hD).symm
        have nDb : D ≠ lb := (ne_of_none lbb hD).symm
        have lbx : Hx lb = some (.lst (qs.map V.ref)) := sx _ _ lbb (Ne.symm t2)
        have lax : Hx la = some (.lst (ps.map V.ref)) := sx _ _ lab (Ne.symm t1)
        have bx : But [tp, la, lb] H Hx := But.sbut sx tx bb (.inl m1)
        have hxx := (bx.keep hF3) _ _ hx trivial
        have hul2 : us.length ≤ 4 := by omega
        have hix : ixN us.length 0 = some 0 := ixN_nat (j := 0) (by omega)
        walk_at "sy"
        rename_i pi _ Hc nc l1 Hd nd1 qn He ne Hf cf
        refine ⟨x, la, _, r, us, ps.map V.ref, rfl, ⟨dx, by walk_at "look"⟩, by walk_at "look", by walk_at "look", by omega, by omega, fun Hg pn np hp hlm sg => ?_⟩
        have bf1 : But [tp, la, lb] H Hf := by walk_at "bf"
        have npi : H pi = none := bx.free _ nc.free
        have npnpi : pn ≠ pi := (ne_of_none (show Hf pi = some _ by walk_at "look") np).symm
        have nq : H qn = none := But.free (by walk_at "bf" : But [tp, la, lb] H Hd) _ ne.free
        have nqp : qn ≠ pn := ne_of_none (show Hf qn = some _ by walk_at "look") np
        walk_at "sy"
        rename_i Hh ch
        refine use_alike (.int ((ps.map V.ref).length : Int)) rfl (by show V.int _ = V.int _; congr 1; simp only [List.length_append, List.length_cons, List.length_nil, List.length_map]; omega) (by simp [dpt]) trivial (fun Hi si => ?_)
        walk_at "sy"
        rename_i s1 Hj nj s2 Hk nk
        have ec1 : cutV (us.set 0 (V.int 7)) (some 1) none = us.drop 1 := by
          rw [show (some (1 : Int)) = some ((1 : Nat) : Int) from rfl, cut_lo]
          cases us <;> rfl
        have ec2 : cutV us (some 1) none = us.drop 1 := cut_lo us 1
        rw [ec1] at nj
        rw [ec2] at nk
        have hsd : ∀ v ∈ us.drop 1, ScS v := fun v hv => .inl (usc v (List.mem_of_mem_drop hv))
        refine ⟨.list ((us.drop 1).map scD), .list ((us.drop 1).map scD), .lst (SqL.of (by walk_at "look")) (scD_dps hsd), .lst (SqL.of (by walk_at "look")) (scD_dps hsd), bxD_sh hsd, bxD_sh hsd, ?_⟩
        rw [show PyData.eqv (.list ((us.drop 1).map scD)) (.list ((us.drop 1).map scD)) = true from SeqAt.eqv_refl _ (bxD_lay hsd).1]
        have b4 : But [tp, la, lb] H Hk := by walk_at "bf"
        have pall : ∀ a ∈ ps ++ qs, ∃ o, H a = some o := fun a ha => by
          rcases List.mem_append.mp ha with ha | ha
          · obtain ⟨i, hi⟩ := List.mem_iff_getElem?.mp ha
            have := (List.getElem?_eq_some_iff.mp hi).1
            exact ⟨_, hA.2.2 i a _ hi (List.getElem?_eq_getElem (by omega))⟩
          · obtain ⟨i, hi⟩ := List.mem_iff_getElem?.mp ha
            have := (List.getElem?_eq_some_iff.mp hi).1
            exact ⟨_, hB.2.2 i a _ hi (List.getElem?_eq_getElem (by omega))⟩
        have npH : H pn = none := bf1.free _ np
        have away : ∀ a, (∃ o, H a = some o) → a ≠ pn ∧ a ≠ qn := fun a ⟨o, ho⟩ => ⟨ne_of_none ho npH, ne_of_none ho nq⟩
        have at_ := away tp ⟨_, htp⟩
        have aa := away la ⟨_, hla⟩
        have ab := away lb ⟨_, hlb⟩
        have not3 : ∀ a ∈ ps ++ qs, a ∉ [tp, la, lb] := fun a ha => by
          simp only [List.mem_cons, List.not_mem_nil, or_false, not_or]
          rcases List.mem_append.mp ha with ha | ha
          · exact ap.tps a ha
          · exact ap.tqs a ha
        refine q Hk _ (ps ++ [pn]) (qs ++ [qn]) (bs ++ [.str r :: us]) (b4.mono mono3) (by walk_at "look") (by omega) ?_ ?_ ?_ ?_ ?_ (by simp)
        · exact hA.add (fun a o ha ho => b4.get a o ho (not3 a (List.mem_append_left _ ha))) (by walk_at "look") (by walk_at "look")
        · exact hB.add (fun a o ha ho => b4.get a o ho (not3 a (List.mem_append_right _ ha))) (by walk_at "look") (by walk_at "look")
        · refine Apart.iff.mpr ⟨t1, t2, t3, fun p hp => ?_, fun p hp => ?_, ?_, ?_, ?_⟩
          · rcases List.mem_append.mp hp with hp | hp
            · exact ap.tps p hp
            · obtain rfl : p = pn := by simpa using hp
              exact ⟨at_.1.symm, aa.1.symm, ab.1.symm⟩
          · rcases List.mem_append.mp hp with hp | hp
            · exact ap.tqs p hp
            · obtain rfl : p = qn := by simpa using hp
              exact ⟨at_.2.symm, aa.2.symm, ab.2.symm⟩
          · refine List.nodup_append.mpr ⟨ap.np, by simp, fun a ha b hb => ?_⟩
            obtain rfl : b = pn := by simpa using hb
            exact (away a (pall a (List.mem_append_left _ ha))).1
          · refine List.nodup_append.mpr ⟨ap.nq, by simp, fun a ha b hb => ?_⟩
            obtain rfl : b = qn := by simpa using hb
            exact (away a (pall a (List.mem_append_right _ ha))).2
          · intro p hp u hu
            rcases List.mem_append.mp hp with hp | hp <;> rcases List.mem_append.mp hu with hu | hu
            · exact ap.pq p hp u hu
            · obtain rfl : u = qn := by simpa using hu
              exact (away p (pall p (List.mem_append_left _ hp))).2
            · obtain rfl : p = pn := by simpa using hp
              exact (away u (pall u (List.mem_append_right _ hu))).1.symm
            · obtain rfl : p = pn := by simpa using hp
              obtain rfl : u = qn := by simpa using hu
              exact nqp.symm
        · intro a ha
          rcases List.mem_append.mp ha with ha | ha <;> rcases List.mem_append.mp ha with ha | ha
          · exact .inl (List.mem_append_left _ ha)
          · obtain rfl : a = pn := by simpa using ha
            exact .inr npH
          · exact .inl (List.mem_append_right _ ha)
          · obtain rfl : a = qn := by simpa using ha
            exact .inr nq
        · intro b hb
          rcases List.mem_append.mp hb with hb | hb
          · exact hgood b hb
          · obtain rfl : b = _ := by simpa using hb
            exact ⟨r, us, rfl, hr2, by omega, hul2, usc⟩
    · walk_at "sy"
      rename_i e H2 n2
      refine ⟨.list (bs.map bxD), .list [], Bx.dp (hB.frame fun a o ha ho => ?_) hgood, .lst (SqL.of n2.at_) .nil, bxsD_sh hgood, by decide +kernel, ?_⟩
      · refine n2.get (c1.but _ _ ho ?_)
        rcases ha with rfl | ha
        · exact Ne.symm t2
        · exact (ap.tqs a ha).1
      rw [eqv_nil]
      by_cases e1 : bs = []
      · have e2 : bs.isEmpty = true := by rw [e1]; rfl
        refine ⟨_, rfl, iteBT e2 ?_⟩
        walk_at "sy"
        refine use_draw (But.stays hS3 (by walk_at "bf") (by walk_at "mem")) (by walk_at "look") (by omega) (by decide) (fun Ha da ca ga0 ga1 => ?_)
        obtain ⟨r, hr1, hr2⟩ : ∃ r, atI [V.str "pair", V.str "list", V.str "a"] da = some (.str r) ∧ PyData.strOk r = true := by
          have g : da = 0 ∨ da = 1 ∨ da = 2 := by omega
          rcases g with rfl | rfl | rfl
          · exact ⟨_, rfl, by decide +kernel⟩
          · exact ⟨_, rfl, by decide +kernel⟩
          · exact ⟨_, rfl, by decide +kernel⟩
        walk_at "sy"
        refine use_draw (But.stays hS3 (by walk_at "bf") (by walk_at "mem")) (by walk_at "look") (by omega) (by decide) (fun Hb db cb gb0 gb1 => ?_)
        obtain ⟨nd, rfl⟩ : ∃ nd : Nat, db = nd := Int.eq_ofNat_of_zero_le gb0
        have bb : But [tp, la, lb] H Hb := by walk_at "bf"
        have tb := cb.at_
        have lab : Hb la = some (.lst (ps.map V.ref)) := by walk_at "look"
        have lbb : Hb lb = some (.lst (qs.map V.ref)) := by walk_at "look"
        walk_at "sy"
        refine k_lcR (fun D i Hx => ∃ (us : List V) (kx : Nat), SameBut tp Hb Hx ∧ Hx tp = some (.lst [.int (kx : Int)]) ∧ kx ≤ k + 3 + 3 * i ∧ Hx D = some (.lst us) ∧ us.length = i ∧ ∀ v ∈ us, Sc v) (fun D Hx n => ⟨[], _, SameBut.of n.same, n.get tb, by omega, n.at_, rfl, fun v hv => by cases hv⟩) ?_ ?_
        · rintro D hD i Hx hi ⟨us, kx, sx, tx, hkx, dx', ul, usc⟩
          have lbx : Hx lb = some (.lst (qs.map V.ref)) := sx _ _ lbb (Ne.symm t2)
          have nDt : D ≠ tp := (ne_of_none tb hD).symm
          walk_at "sy"
          refine ⟨a, tp, ns, kx, (qs.map V.ref).length + 1, rfl, But.stays hS3 (But.sbut sx tx bb (.inl m1)) (.inl m1), tx, by omega, fun Hy v k' hv hk' ty sy => ?_⟩
          have dy : Hy D = some (.lst us) := sy _ _ dx' nDt
          walk_at "sy"
          rename_i Hz cz
          refine ⟨us ++ [v], k', fun x o e n => cz.but _ _ (sy _ _ (sx _ _ e n) n) (ne_of_none e hD), cz.get ty (Ne.symm nDt), by omega, cz.at_, by simp [ul], fun u hu => ?_⟩
          rcases List.mem_append.mp hu with hu | hu
          · exact usc u hu
          · obtain rfl : u = v := by simpa using hu
            exact hv
        · rintro D hD Hx ⟨us, kx, sx, tx, hkx, dx', ul, usc⟩
          have hul : us.length = nd + 1 := by omega
          have nDt : D ≠ tp := (ne_of_none tb hD).symm
          have nDa : D ≠ la := (ne_of_none lab hD).symm
          have nDb : D ≠ lb := (ne_of_none lbb hD).symm
          have lbx : Hx lb = some (.lst (qs.map V.ref)) := sx _ _ lbb (Ne.symm t2)
          have lax : Hx la = some (.lst (ps.map V.ref)) := sx _ _ lab (Ne.symm t1)
          have bx : But [tp, la, lb] H Hx := But.sbut sx tx bb (.inl m1)
          have hxx := (bx.keep hF3) _ _ hx trivial
          have hul2 : us.length ≤ 4 := by omega
          have hix : ixN us.length 0 = some 0 := ixN_nat (j := 0) (by omega)
          walk_at "sy"
          rename_i pi _ Hc nc l1 Hd nd1 qn He ne Hf cf
          refine ⟨x, la, _, r, us, ps.map V.ref, rfl, ⟨dx, by walk_at "look"⟩, by walk_at "look", by walk_at "look", by omega, by omega, fun Hg pn np hp hlm sg => ?_⟩
          have bf1 : But [tp, la, lb] H Hf := by walk_at "bf"
          have npi : H pi = none := bx.free _ nc.free
          have npnpi : pn ≠ pi := (ne_of_none (show Hf pi = some _ by walk_at "look") np).symm
          have nq : H qn = none := But.free (by walk_at "bf" : But [tp, la, lb] H Hd) _ ne.free
          have nqp : qn ≠ pn := ne_of_none (show Hf qn = some _ by walk_at "look") np
          walk_at "sy"
          rename_i Hh ch
          refine use_alike (.int ((ps.map V.ref).length : Int)) rfl (by show V.int _ = V.int _; congr 1; simp only [List.length_append, List.length_cons, List.length_nil, List.length_map]; omega) (by simp [dpt]) trivial (fun Hi si => ?_)
          walk_at "sy"
          rename_i s1 Hj nj s2 Hk nk
          have ec1 : cutV (us.set 0 (V.int 7)) (some 1) none = us.drop 1 := by
            rw [show (some (1 : Int)) = some ((1 : Nat) : Int) from rfl, cut_lo]
            cases us <;> rfl
          have ec2 : cutV us (some 1) none = us.drop 1 := cut_lo us 1
          rw [ec1] at nj
          rw [ec2] at nk
          have hsd : ∀ v ∈ us.drop 1, ScS v := fun v hv => .inl (usc v (List.mem_of_mem_drop hv))
          refine ⟨.list ((us.drop 1).map scD), .list ((us.drop 1).map scD), .lst (SqL.of (by walk_at "look")) (scD_dps hsd), .lst (SqL.of (by walk_at "look")) (scD_dps hsd), bxD_sh hsd, bxD_sh hsd, ?_⟩
          rw [show PyData.eqv (.list ((us.drop 1).map scD)) (.list ((us.drop 1).map scD)) = true from SeqAt.eqv_refl _ (bxD_lay hsd).1]
          have b4 : But [tp, la, lb] H Hk := by walk_at "bf"
          have pall : ∀ a ∈ ps ++ qs, ∃ o, H a = some o := fun a ha => by
            rcases List.mem_append.mp ha with ha | ha
            · obtain ⟨i, hi⟩ := List.mem_iff_getElem?.mp ha
              have := (List.getElem?_eq_some_iff.mp hi).1
              exact ⟨_, hA.2.2 i a _ hi (List.getElem?_eq_getElem (by omega))⟩
            · obtain ⟨i, hi⟩ := List.mem_iff_getElem?.mp ha
              have := (List.getElem?_eq_some_iff.mp hi).1
              exact ⟨_, hB.2.2 i a _ hi (List.getElem?_eq_getElem (by omega))⟩
          have npH : H pn = none := bf1.free _ np
          have away : ∀ a, (∃ o, H a = some o) → a ≠ pn ∧ a ≠ qn := fun a ⟨o, ho⟩ => ⟨ne_of_none ho npH, ne_of_none ho nq⟩
          have at_ := away tp ⟨_, htp⟩
          have aa := away la ⟨_, hla⟩
          have ab := away lb ⟨_, hlb⟩
          have not3 : ∀ a ∈ ps ++ qs, a ∉ [tp, la, lb] := fun a ha => by
            simp only [List.mem_cons, List.not_mem_nil, or_false, not_or]
            rcases List.mem_append.mp ha with ha | ha
            · exact ap.tps a ha
            · exact ap.tqs a ha
          refine q Hk _ (ps ++ [pn]) (qs ++ [qn]) (bs ++ [.str r :: us]) (b4.mono mono3) (by walk_at "look") (by omega) ?_ ?_ ?_ ?_ ?_ (by simp)
          · exact hA.add (fun a o ha ho => b4.get a o ho (not3 a (List.mem_append_left _ ha))) (by walk_at "look") (by walk_at "look")
          · exact hB.add (fun a o ha ho => b4.get a o ho (not3 a (List.mem_append_right _ ha))) (by walk_at "look") (by walk_at "look")
          · refine Apart.iff.mpr ⟨t1, t2, t3, fun p hp => ?_, fun p hp => ?_, ?_, ?_, ?_⟩
            · rcases List.mem_append.mp hp with hp | hp
              · exact ap.tps p hp
              · obtain rfl : p = pn := by simpa using hp
                exact ⟨at_.1.symm, aa.1.symm, ab.1.symm⟩
            · rcases List.mem_append.mp hp with hp | hp
              · exact ap.tqs p hp
              · obtain rfl : p = qn := by simpa using hp
                exact ⟨at_.2.symm, aa.2.symm, ab.2.symm⟩
            · refine List.nodup_append.mpr ⟨ap.np, by simp, fun a ha b hb => ?_⟩
              obtain rfl : b = pn := by simpa using hb
              exact (away a (pall a (List.mem_append_left _ ha))).1
            · refine List.nodup_append.mpr ⟨ap.nq, by simp, fun a ha b hb => ?_⟩
              obtain rfl : b = qn := by simpa using hb
              exact (away a (pall a (List.mem_append_right _ ha))).2
            · intro p hp u hu
              rcases List.mem_append.mp hp with hp | hp <;> rcases List.mem_append.mp hu with hu | hu
              · exact ap.pq p hp u hu
              · obtain rfl : u = qn := by simpa using hu
                exact (away p (pall p (List.mem_append_left _ hp))).2
              · obtain rfl : p = pn := by simpa using hp
                exact (away u (pall u (List.mem_append_right _ hu))).1.symm
              · obtain rfl : p = pn := by simpa using hp
                obtain rfl : u = qn := by simpa using hu
                exact nqp.symm
          · intro a ha
            rcases List.mem_append.mp ha with ha | ha <;> rcases List.mem_append.mp ha with ha | ha
            · exact .inl (List.mem_append_left _ ha)
            · obtain rfl : a = pn := by simpa using ha
              exact .inr npH
            · exact .inl (List.mem_append_right _ ha)
            · obtain rfl : a = qn := by simpa using ha
              exact .inr nq
          · intro b hb
            rcases List.mem_append.mp hb with hb | hb
            · exact hgood b hb
            · obtain rfl : b = _ := by simpa using hb
              exact ⟨r, us, rfl, hr2, by omega, hul2, usc⟩
      · have e2 : bs.isEmpty = false := by
          cases bs with
          | nil => exact absurd rfl e1
          | cons b r => rfl
        have hpos : 0 < bs.length := List.length_pos_iff.mpr e1
        refine ⟨_, rfl, iteBF e2 ?_⟩
        walk_at "sy"
        refine use_draw (But.stays hS3 (by walk_at "bf") (by walk_at "mem")) (by walk_at "look") (by omega) (by omega) (fun H3 di c3 g0 g1 => ?_)
        obtain ⟨i, rfl⟩ : ∃ i : Nat, di = i := Int.eq_ofNat_of_zero_le g0
        have hib : i < bs.length := by omega
        obtain ⟨b, hb⟩ : ∃ b, bs[i]? = some b := ⟨_, List.getElem?_eq_getElem hib⟩
        have hgb := hgood b (List.mem_of_getElem? hb)
        obtain ⟨pp, p1, p2, p3, p4⟩ := hA.at hb
        obtain ⟨qq, q1, q2, q3, q4⟩ := hB.at hb
        obtain ⟨np1, np2, np3⟩ := ap.tps pp p2
        obtain ⟨nq1, nq2, nq3⟩ := ap.tqs qq q2
        have npq := ap.pq pp p2 qq q2
        obtain ⟨r, us, rfl, hrk, hu1, hu2, husc⟩ := hgb
        walk_at "sy"
        refine use_draw (But.stays hS3 (by walk_at "bf") (by walk_at "mem")) (by walk_at "look") (by omega) (by simp only [List.length_cons]; omega) (fun H4 dj c4 j0 j1 => ?_)
        obtain ⟨j, rfl⟩ : ∃ j : Nat, dj = j := Int.eq_ofNat_of_zero_le j0
        simp only [List.length_cons] at j1
        have hju : j < us.length := by omega
        have hxx : H4 x = some (.ins T.a_World dx [("boxes", .ref la)]) := by walk_at "look"
        have hv1 : (V.str r :: us)[1 + j]? = some us[j] := by
          rw [show 1 + j = j + 1 by omega, List.getElem?_cons_succ, List.getElem?_eq_getElem hju]
        have hv2 : atI (V.str r :: us) (1 + (j : Int)) = some us[j] := by
          rw [show (1 : Int) + (j : Int) = ((1 + j : Nat) : Int) by omega]
          exact atI_nat hv1
        have hsc := husc us[j] (List.getElem_mem hju)
        walk_at "sy"
        by_cases ew : d = 1
        · walk_at "sy"
          refine ⟨x, la, pp, i, j, _, _, us[j], rfl, ⟨dx, hxx⟩, by walk_at "look", p3, by walk_at "look", hv1, ?_⟩
          walk_at "sy"
          have fin : ∀ H5, Same H4 H5 → Q (.bl true) H5 := fun H5 s5 => by
            have b5 : But [tp] H H5 := But.same s5 (But.chg c4 (But.chg c3 (But.new n2 (But.chg c1 (But.refl _ _) (.inl (by simp)))) (.inl (by simp))) (.inl (by simp)))
            refine q H5 _ ps qs bs (b5.mono fun a ha => by simp at ha; subst ha; simp [Rg]) (s5 _ _ c4.at_) (by omega) (hA.frame fun a o ha ho => b5.get a o ho ?_) (hB.frame fun a o ha ho => b5.get a o ho ?_) hnd (fun a ha => .inl ha) hgood (by omega)
            · simp only [List.mem_cons, List.not_mem_nil, or_false]
              rcases ha with rfl | ha
              · exact Ne.symm t1
              · exact (ap.tps a ha).1
            · simp only [List.mem_cons, List.not_mem_nil, or_false]
              rcases ha with rfl | ha
              · exact Ne.symm t2
              · exact (ap.tqs a ha).1
          rcases hsc with ev | ⟨n, ev⟩
          · rw [ev]
            exact use_alike .non rfl rfl (by simp [dpt]) trivial fin
          · rw [ev]
            exact use_alike (.int n) rfl rfl (by simp [dpt]) trivial fin
        · walk_at "sy"
          have g1' : tp ∈ [tp, pp, qq] := by simp
          have g2' : pp ∈ [tp, pp, qq] := by simp
          have g3' : qq ∈ [tp, pp, qq] := by simp
          refine ⟨a, tp, ns, k + 1 + 1 + 1, (qs.map V.ref).length, rfl, But.stays hS3 (by walk_at "bf") (by walk_at "mem"), by walk_at "look", by omega, fun Hy v k' hv hk' ty sy => ?_⟩
          have hix : ixN (V.str r :: us).length (1 + (j : Int)) = some (1 + j) := by
            rw [show (1 : Int) + (j : Int) = ((1 + j : Nat) : Int) by omega]
            exact ixN_nat (by simp only [List.length_cons]; omega)
          have hv3 : atI ((V.str r :: us).set (1 + j) v) (1 + (j : Int)) = some v := by
            rw [show (1 : Int) + (j : Int) = ((1 + j : Nat) : Int) by omega]
            exact atI_nat (by rw [List.getElem?_set_self (by simp only [List.length_cons]; omega)])
          walk_at "sy"
          rename_i Hz cz
          refine ⟨x, la, pp, i, j, _, _, v, rfl, ⟨dx, by walk_at "look"⟩, by walk_at "look", p3, by walk_at "look", by simp only [List.length_cons]; omega, fun Hw cw => ?_⟩
          walk_at "sy"
          have bw : But [tp, pp, qq] H Hw := by walk_at "bf"
          have es : (V.str r :: us).set (1 + j) v = V.str r :: us.set j v := by
            rw [show 1 + j = j + 1 by omega]
            rfl
          rw [es] at cw cz
          refine q Hw k' ps qs (bs.set i (V.str r :: us.set j v)) (bw.mono fun a ha => ?_) (by walk_at "look") (by omega) (hA.put ap.np p1 (fun a o ha hn ho => bw.get a o ho ?_) (Ne.symm np2) (by walk_at "look")) (hB.put ap.nq q1 (fun a o ha hn ho => bw.get a o ho ?_) (Ne.symm nq3) (by walk_at "look")) hnd (fun a ha => .inl ha) (fun b hb => ?_) (by rw [List.length_set]; omega)
          · simp only [List.mem_cons, List.not_mem_nil, or_false] at ha
            simp only [Rg, List.mem_cons, List.mem_append]
            rcases ha with rfl | rfl | rfl
            · exact .inl rfl
            · exact .inr (.inr (.inr (.inl p2)))
            · exact .inr (.inr (.inr (.inr q2)))
          · simp only [List.mem_cons, List.not_mem_nil, or_false, not_or]
            rcases ha with rfl | ha
            · exact ⟨Ne.symm t1, hn, Ne.symm nq2⟩
            · exact ⟨(ap.tps a ha).1, hn, ap.pq a ha qq q2⟩
          · simp only [List.mem_cons, List.not_mem_nil, or_false, not_or]
            rcases ha with rfl | ha
            · exact ⟨Ne.symm t2, Ne.symm np3, hn⟩
            · exact ⟨(ap.tqs a ha).1, (ap.pq pp p2 a ha).symm, hn⟩
          · rcases List.mem_or_eq_of_mem_set hb with hb | rfl
            · exact hgood b hb
            · refine ⟨r, _, rfl, hrk, by rw [List.length_set]; exact hu1, by rw [List.length_set]; exact hu2, fun u hu => ?_⟩
              rcases List.mem_or_eq_of_mem_set hu with hu | rfl
              · exact husc u hu
              · exact hv
end
def scT : V → Dt
  | .int n => .int n
  | .str s => .str s
  | _ => .non
theorem scT_is {H : Hp} {v : V} (h : ScS v) : IsD H (scT v) v := by
  rcases h with (rfl | ⟨n, rfl⟩) | ⟨s, rfl, _⟩ <;> rfl
theorem scT_iss {H : Hp} : ∀ {b : List V}, (∀ v ∈ b, ScS v) → IsDs H (b.map scT) b
  | [], _ => rfl
  | v :: b, h => ⟨v, b, rfl, scT_is (h v (List.mem_cons_self ..)), scT_iss fun x hx => h x (List.mem_cons_of_mem _ hx)⟩
theorem scT_dpt (v : V) : dpt (scT v) = 0 := by
  unfold scT
  split <;> rfl
theorem scT_small (v : V) : smallD (scT v) := by
  unfold scT
  split <;> trivial
theorem scT_dpts : ∀ b : List V, dpts (b.map scT) = 0
  | [] => rfl
  | v :: b => by simp only [List.map_cons, dpts, scT_dpt, scT_dpts b]; rfl
theorem scT_smalls : ∀ b : List V, smallDs (b.map scT)
  | [] => trivial
  | v :: b => ⟨scT_small v, scT_smalls b⟩
def HeldAt (H : Hp) (hv : List V) : Prop := ∀ v ∈ hv, ∃ (t u1 u2 : Addr) (b : List V), v = .ref t ∧ H t = some (.tup [.ref u1, .ref u2]) ∧ H u1 = some (.tup b) ∧ H u2 = some (.tup b) ∧ ∀ v ∈ b, ScS v
theorem HeldAt.keep {H H' : Hp} (k : Keep H H') {hv : List V} (h : HeldAt H hv) : HeldAt H' hv := fun v hx => by
  obtain ⟨t, u1, u2, b, e, h1, h2, h3, h4⟩ := h v hx
  exact ⟨t, u1, u2, b, e, k _ _ h1 trivial, k _ _ h2 trivial, k _ _ h3 trivial, h4⟩
section
variable {P : Program} {w : World} {K : PySem.W.Frag} {mg : Str → Option Value} {base : Heap}
def spGood (T : Tx K mg) : Sp := fun vs H Q _ => ∃ (x la lb lh : Addr) (ps qs : List Addr) (bs : List (List V)) (hv : List V), vs = [.ref x, .ref lb, .ref lh] ∧ WAt T H x la ∧ Bx H la ps bs ∧ Bx H lb qs bs ∧ (∀ b ∈ bs, GoodB b) ∧ bs.length ≤ 100 ∧ H lh = some (.lst hv) ∧ HeldAt H hv ∧ hv.length ≤ 100 ∧ ∀ H', Same H H' → Q (.bl true) H'
theorem ok_l_good (T : Tx K mg) : FnOk P w K mg base CX0 6 T.f_l_good T.d_l_good ["_law_world", "_law_boxes", "_law_held"] (spGood T) := by
  refine T.F_l_good.ok sc_l_good (fun vs H Q E h => ?_) (fun cdv A outer s H vs Q E hr h => ?_)
  · obtain ⟨x, la, lb, lh, ps, qs, bs, hv, rfl, _⟩ := h
    rfl
  · obtain ⟨x, la, lb, lh, ps, qs, bs, hv, rfl, ⟨dx, hx⟩, hA, hB, hgood, hlen, hlh, hheld, hhl, q⟩ := h
    refine ⟨_, (pss_cons (ps_if (pt_not (pt_val (pe_call (ok_l_alike T 3) (hr.mono (by omega)) rfl T.m_l_alike T.F_l_alike.kp T.B_l_alike .nil pass0 (pa_cons (pe_meth0 (pv 0) T.cl_World T.M_World_many (ok_World_many T) (hr.mono (by omega)) T.B_World_many .nil pass0) (pa_cons (pe_callB (len_seqK (K := K) rfl) (by rfl) T.n_len PySem.boot_len (pa_cons (pv 1) pa_nil)) pa_nil)))))
        (pss_one (ps_ret pe_bl))
        pss_nil)
      (pss_cons (ps_for PassesOwn.never rfl (pi_range1 rfl T.n_range (pa_cons (pe_callB (len_seqK (K := K) rfl) (by rfl) T.n_len PySem.boot_len (pa_cons (pv 1) pa_nil)) pa_nil)) (pg_name (i := 3) sc_l_good.nd rfl (Or.inl rfl))
        (pss_one (ps_if (pt_not (pt_val (pe_call (ok_l_alike T 3) (hr.mono (by omega)) rfl T.m_l_alike T.F_l_alike.kp T.B_l_alike .nil pass0 (pa_cons (pe_meth (pv 0) T.cl_World T.M_World_inside (ok_World_inside T) (hr.mono (by omega)) T.B_World_inside .nil pass0 (pa_cons (pv 3) pa_nil)) (pa_cons (pe_callTy (tuple_ofK (K := K) rfl) (by rfl) T.n_tuple PyProof.Rows.boot_tuple (pa_cons (pe_ix (ix_listK (K := K) rfl) (pv 1) (pv 3) (fun _ _ => rfl)) pa_nil)) pa_nil)))))
          (pss_one (ps_ret pe_bl))
          pss_nil)))
      (pss_one (ps_ret (pe_callB (cr_allK (K := K) rfl rfl) (by rfl) T.n_all (by decide +kernel) (pa_cons (pe_lc (own := [("_law_found", 4), ("_law_due", 5)]) (tt := tYes) rfl sc_l_good.nd (pi_listK (K := K) rfl (pv 2)) (blkOk_by (own := [("_law_found", 4), ("_law_due", 5)]) (N := ["_law_world", "_law_boxes", "_law_held", "_law_box", "_law_found", "_law_due"]) (sc := defScope s_l_good) (by decide +kernel)) (fun _ _ _ _ _ => pg_tupK (K := K) (n := 2) rfl rfl (pgs_cons (pg_name (i := 4) sc_l_good.nd rfl (Or.inl rfl)) (pgs_cons (pg_name (i := 5) sc_l_good.nd rfl (Or.inl rfl)) pgs_nil))) (fun _ _ _ _ _ => pts_nil) (fun _ _ _ _ _ => (pe_cmpR (eqDK (K := K) rfl hr.units) (pv 4) (pv 5) (nomark _)))) pa_nil)))))), ?_⟩
    have hla := hA.1
    have hlb := hB.1
    have hql := hB.2.1
    have hpl := hA.2.1
    have hqm : (qs.map V.ref).length = bs.length := by rw [List.length_map]; exact hql
    walk_at "sy"
    refine ⟨x, la, _, rfl, ⟨dx, hx⟩, hla, ?_⟩
    walk_at "sy"
    refine use_alike (.int ((ps.map V.ref).length : Int)) rfl (by show V.int _ = V.int _; simp only [List.length_map, hpl, hql]) (by simp [dpt]) trivial (fun H1 s1 => ?_)
    walk_at "sy"
    have hlb1 := s1 _ _ hlb
    walk_at "sy"
    refine k_forR (fun i σ Hx => ∃ v3 : Option V, σ = [some (.ref x), some (.ref lb), some (.ref lh), v3, none, none] ∧ Same H Hx) ⟨none, rfl, s1⟩ ?_ ?_
    · rintro i σ Hx hi ⟨v3, rfl, sx⟩
      rw [Int.zero_add]
      have hib : i < bs.length := by
        rw [Int.toNat_natCast, List.length_map] at hi
        omega
      obtain ⟨b, hb⟩ : ∃ b, bs[i]? = some b := ⟨_, List.getElem?_eq_getElem hib⟩
      have hgb := hgood b (List.mem_of_getElem? hb)
      obtain ⟨pp, p1, p2, p3, p4⟩ := hA.at hb
      obtain ⟨qq, q1, q2, q3, q4⟩ := hB.at hb
      walk_at "sy"
      refine ⟨x, la, pp, i, _, b, rfl, ⟨dx, sx _ _ hx⟩, sx _ _ hla, p3, sx _ _ p4, fun t Hy nt => ?_⟩
      walk_at "sy"
      rename_i t2 _ Hz n2
      have hbl : b.length ≤ 5 := by
        obtain ⟨r, us, rfl, _, _, h, _⟩ := hgb
        simp only [List.length_cons]
        omega
      refine use_alike (.tup (b.map scT)) ⟨t, b, rfl, by walk_at "look", scT_iss hgb.all⟩ ⟨t2, b, rfl, by walk_at "look", scT_iss hgb.all⟩ (by simp only [dpt, scT_dpts]; omega) ⟨by rw [List.length_map]; omega, scT_smalls b⟩ (fun Hw sw => ?_)
      walk_at "sy"
      exact ⟨_, rfl, sx.trans (nt.same.trans (n2.same.trans sw))⟩
    · rintro σ Hx ⟨v3, rfl, sx⟩
      have hlx := sx _ _ hlh
      walk_at "sy"
      refine k_lcL hv (fun D i H2 => Same Hx H2 ∧ H2 D = some (.lst (List.replicate i (.bl true)))) (fun D H' n => ⟨n.same, n.at_⟩) (fun D i H2 _ h => SqL.of (h.1 _ _ hlx)) ?_ ?_
      · rintro D hD i v H2 hv2 ⟨s2, hd2⟩
        obtain ⟨t, u1, u2, b, rfl, k1, k2, k3, k4⟩ := hheld v (List.mem_of_getElem? hv2)
        have hi := (List.getElem?_eq_some_iff.mp hv2).1
        have kk := sx.trans s2
        have k1' := kk _ _ k1
        walk_at "sy"
        refine ⟨.tuple (b.map scD), .tuple (b.map scD), .tup (SqT.of (kk _ _ k2)) (scD_dps k4), .tup (SqT.of (kk _ _ k3)) (scD_dps k4), ?_, ?_, ?_⟩
        · exact shapedOf (by simp only [PyData.canLay0]; exact (scD_lay b k4).1) (by have := (scD_lay b k4).2; simp only [PyData.depth]; omega)
        · exact shapedOf (by simp only [PyData.canLay0]; exact (scD_lay b k4).1) (by have := (scD_lay b k4).2; simp only [PyData.depth]; omega)
        rw [SeqAt.eqv_refl (.tuple (b.map scD)) (by simp only [PyData.canLay0]; exact (scD_lay b k4).1)]
        walk_at "sy"
        rename_i H3 c3
        refine ⟨c3.sameOwn s2 hD, ?_⟩
        rw [rep_snoc]
        exact c3.at_
      · rintro D hD H2 ⟨s2, hd2⟩
        walk_at "sy"
        refine w_all (bs := List.replicate hv.length true) (by rw [List.map_replicate]; exact hd2) ?_
        rw [all_true]
        exact q _ (sx.trans s2)
/-! the law -/
def Fr (la lb : Addr) (ps qs : List Addr) : List Addr := la :: lb :: (ps ++ qs)
structure Two (H0 H : Hp) (L : List Addr) (tp la0 lb0 la1 lb1 : Addr) (ps0 qs0 : List Addr) (bs0 : List (List V)) (ps1 qs1 : List Addr) (bs1 : List (List V)) (n : Nat) : Prop where
  a0 : Bx H la0 ps0 bs0
  b0 : Bx H lb0 qs0 bs0
  a1 : Bx H la1 ps1 bs1
  b1 : Bx H lb1 qs1 bs1
  n0 : (Rg tp la0 lb0 ps0 qs0).Nodup
  n1 : (Rg tp la1 lb1 ps1 qs1).Nodup
  g0 : ∀ b ∈ bs0, GoodB b
  g1 : ∀ b ∈ bs1, GoodB b
  l0 : bs0.length ≤ n
  l1 : bs1.length ≤ n
  dj : ∀ a ∈ Fr la0 lb0 ps0 qs0, ∀ b ∈ Fr la1 lb1 ps1 qs1, a ≠ b
  f0 : ∀ a ∈ Fr la0 lb0 ps0 qs0, H0 a = none ∧ a ∉ L
  f1 : ∀ a ∈ Fr la1 lb1 ps1 qs1, H0 a = none ∧ a ∉ L
theorem Two.swap {H0 H : Hp} {L : List Addr} {tp la0 lb0 la1 lb1 : Addr} {ps0 qs0 ps1 qs1 : List Addr} {bs0 bs1 : List (List V)} {n : Nat} (t : Two H0 H L tp la0 lb0 la1 lb1 ps0 qs0 bs0 ps1 qs1 bs1 n) : Two H0 H L tp la1 lb1 la0 lb0 ps1 qs1 bs1 ps0 qs0 bs0 n :=
  ⟨t.a1, t.b1, t.a0, t.b0, t.n1, t.n0, t.g1, t.g0, t.l1, t.l0, fun a ha b hb => (t.dj b hb a ha).symm, t.f1, t.f0⟩
theorem Bx.alive {H : Hp} {l : Addr} {ps : List Addr} {bs : List (List V)} (h : Bx H l ps bs) {a : Addr} (ha : a = l ∨ a ∈ ps) : ∃ xs, H a = some (.lst xs) := by
  rcases ha with rfl | ha
  · exact ⟨_, h.1⟩
  · obtain ⟨i, hi⟩ := List.mem_iff_getElem?.mp ha
    have h1 := (List.getElem?_eq_some_iff.mp hi).1
    have h2 := h.2.1
    exact ⟨_, h.2.2 i a _ hi (List.getElem?_eq_getElem (by omega))⟩
theorem Two.alive {H0 H : Hp} {L : List Addr} {tp la0 lb0 la1 lb1 : Addr} {ps0 qs0 ps1 qs1 : List Addr} {bs0 bs1 : List (List V)} {n : Nat} (t : Two H0 H L tp la0 lb0 la1 lb1 ps0 qs0 bs0 ps1 qs1 bs1 n) {a : Addr} (ha : a ∈ Fr la0 lb0 ps0 qs0) : ∃ xs, H a = some (.lst xs) := by
  simp only [Fr, List.mem_cons, List.mem_append] at ha
  rcases ha with h | h | h | h
  · exact t.a0.alive (.inl h)
  · exact t.b0.alive (.inl h)
  · exact t.a0.alive (.inr h)
  · exact t.b0.alive (.inr h)
theorem Two.step {H0 H H' : Hp} {L : List Addr} {tp la0 lb0 la1 lb1 : Addr} {ps0 qs0 ps1 qs1 ps' qs' : List Addr} {bs0 bs1 bs' : List (List V)} {n : Nat} (t : Two H0 H L tp la0 lb0 la1 lb1 ps0 qs0 bs0 ps1 qs1 bs1 n)
    (s0 : Same H0 H) (hL : ∀ a ∈ L, ∃ o, H a = some o) (b : But (Rg tp la0 lb0 ps0 qs0) H H') (ha : Bx H' la0 ps' bs') (hb : Bx H' lb0 qs' bs') (nd : (Rg tp la0 lb0 ps' qs').Nodup) (hf : ∀ a ∈ ps' ++ qs', a ∈ ps0 ++ qs0 ∨ H a = none) (hg : ∀ b ∈ bs', GoodB b) (hl : bs'.length ≤ bs0.length + 1) :
    Two H0 H' L tp la0 lb0 la1 lb1 ps' qs' bs' ps1 qs1 bs1 (n + 1) := by
  have old : ∀ a ∈ Fr la0 lb0 ps' qs', a ∈ Fr la0 lb0 ps0 qs0 ∨ H a = none := fun a ha => by
    simp only [Fr, List.mem_cons] at ha ⊢
    rcases ha with h | h | h
    · exact .inl (.inl h)
    · exact .inl (.inr (.inl h))
    · rcases hf a h with h | h
      · exact .inl (.inr (.inr h))
      · exact .inr h
  have ap1 := Apart.iff.mp t.n1
  have out : ∀ a ∈ Fr la1 lb1 ps1 qs1, a ∉ Rg tp la0 lb0 ps0 qs0 := fun a ha hm => by
    simp only [Rg, List.mem_cons] at hm
    rcases hm with rfl | hm
    · simp only [Fr, List.mem_cons, List.mem_append] at ha
      rcases ha with h | h | h | h
      · exact ap1.tl h
      · exact ap1.tb h
      · exact (ap1.tps _ h).1 rfl
      · exact (ap1.tqs _ h).1 rfl
    · exact t.dj a (by simpa only [Fr, List.mem_cons] using hm) a ha rfl
  have l0 := t.l0
  have l1 := t.l1
  refine ⟨ha, hb, t.a1.frame fun a o h e => b.get a o e (out a ?_), t.b1.frame fun a o h e => b.get a o e (out a ?_), nd, t.n1, hg, t.g1, by omega, by omega, fun a ha c hc => ?_, fun a ha => ?_, t.f1⟩
  · simp only [Fr, List.mem_cons, List.mem_append]
    rcases h with h | h
    · exact .inl h
    · exact .inr (.inr (.inl h))
  · simp only [Fr, List.mem_cons, List.mem_append]
    rcases h with h | h
    · exact .inr (.inl h)
    · exact .inr (.inr (.inr h))
  · rcases old a ha with h | h
    · exact t.dj a h c hc
    · obtain ⟨xs, hx⟩ := t.swap.alive hc
      exact (ne_of_none hx h).symm
  · rcases old a ha with h | h
    · exact t.f0 a h
    · refine ⟨s0.free h, fun hm => ?_⟩
      obtain ⟨o, ho⟩ := hL a hm
      rw [h] at ho
      cases ho
end
section
variable {P : Program} {w : World} {K : PySem.W.Frag} {mg : Str → Option Value} {base : Heap}
theorem use_World {T : Tx K mg} {σ : St} {H : Hp} {Q : VK} {E : XK} (h : ∀ (x la dx : Addr) (H' : Hp), x ≠ la → New x (.ins T.a_World dx [("boxes", .ref la)]) H H' → New la (.lst []) H H' → Q (.ref x) H') : tMake T.a_World (spInit T) [] E tNil σ H Q := by
  intro x dx hx hd hne
  refine ⟨x, dx, rfl, upd_same, fun H' la nla hla hx' sb => ⟨rfl, ?_⟩⟩
  have n1 : la ≠ x := by
    rintro rfl
    rw [upd_same] at nla
    cases nla
  rw [upd_ne n1] at nla
  have n2 : la ≠ dx := by
    rintro rfl
    rw [upd_same] at nla
    cases nla
  rw [upd_ne n2] at nla
  exact h x la dx H' n1.symm ⟨hx, hx', sb.made hx hd⟩ ⟨nla, hla, sb.made hx hd⟩
theorem Two.tape {H0 H H' : Hp} {L : List Addr} {tp la0 lb0 la1 lb1 : Addr} {ps0 qs0 ps1 qs1 : List Addr} {bs0 bs1 : List (List V)} {n : Nat} (t : Two H0 H L tp la0 lb0 la1 lb1 ps0 qs0 bs0 ps1 qs1 bs1 n) (b : SameBut tp H H') : Two H0 H' L tp la0 lb0 la1 lb1 ps0 qs0 bs0 ps1 qs1 bs1 n := by
  have p0 := Apart.iff.mp t.n0
  have p1 := Apart.iff.mp t.n1
  refine ⟨t.a0.frame fun a o h e => b a o e ?_, t.b0.frame fun a o h e => b a o e ?_, t.a1.frame fun a o h e => b a o e ?_, t.b1.frame fun a o h e => b a o e ?_, t.n0, t.n1, t.g0, t.g1, t.l0, t.l1, t.dj, t.f0, t.f1⟩
  · rcases h with rfl | h
    · exact p0.tl.symm
    · exact (p0.tps a h).1
  · rcases h with rfl | h
    · exact p0.tb.symm
    · exact (p0.tqs a h).1
  · rcases h with rfl | h
    · exact p1.tl.symm
    · exact (p1.tps a h).1
  · rcases h with rfl | h
    · exact p1.tb.symm
    · exact (p1.tqs a h).1
theorem Two.more {H0 H : Hp} {L : List Addr} {tp la0 lb0 la1 lb1 : Addr} {ps0 qs0 ps1 qs1 : List Addr} {bs0 bs1 : List (List V)} {n : Nat} (t : Two H0 H L tp la0 lb0 la1 lb1 ps0 qs0 bs0 ps1 qs1 bs1 n) {H' : Hp} (g : ∀ a o, a ∉ L → H a = some o → H' a = some o) : Two H0 H' L tp la0 lb0 la1 lb1 ps0 qs0 bs0 ps1 qs1 bs1 n := by
  have z0 : ∀ a, (a = la0 ∨ a ∈ ps0) ∨ (a = lb0 ∨ a ∈ qs0) → a ∉ L := fun a h => (t.f0 a (by
    simp only [Fr, List.mem_cons, List.mem_append]
    rcases h with (h | h) | (h | h) <;> simp [h])).2
  have z1 : ∀ a, (a = la1 ∨ a ∈ ps1) ∨ (a = lb1 ∨ a ∈ qs1) → a ∉ L := fun a h => (t.f1 a (by
    simp only [Fr, List.mem_cons, List.mem_append]
    rcases h with (h | h) | (h | h) <;> simp [h])).2
  exact ⟨t.a0.frame fun a o h e => g a o (z0 a (.inl h)) e, t.b0.frame fun a o h e => g a o (z0 a (.inr h)) e, t.a1.frame fun a o h e => g a o (z1 a (.inl h)) e, t.b1.frame fun a o h e => g a o (z1 a (.inr h)) e, t.n0, t.n1, t.g0, t.g1, t.l0, t.l1, t.dj, t.f0, t.f1⟩
def spLaw (K : PySem.W.Frag) : Sp := fun vs H Q _ => ∃ (a : Addr) (ns : List Int), vs = [.ref a] ∧ SqL K H a (ns.map V.int) ∧ ns.length ≤ 63 ∧ ∀ H', Q (.bl true) H'
theorem ok_law (T : Tx K mg) : FnOk P w K mg base CX0 12 T.f_law T.d_law ["_law_script"] (spLaw K) := by
  refine T.F_law.ok sc_law (fun vs H Q E h => ?_) (fun cdv A outer s H vs Q E hr h => ?_)
  · obtain ⟨a, ns, rfl, _⟩ := h
    rfl
  · obtain ⟨a, ns, rfl, hS, _, q⟩ := h
    refine ⟨_, (pss_cons (ps_set (i := 1) sc_law.nd rfl (Or.inl rfl) (pe_lst (pa_cons pe_int pa_nil)))
      (pss_cons (ps_set (i := 2) sc_law.nd rfl (Or.inl rfl) (pe_lst (pa_cons (pe_make0 T.Mk_World (ok_World_init T) (hr.mono (by omega)) rfl T.c_World T.B_World_init .nil pass0) (pa_cons (pe_make0 T.Mk_World (ok_World_init T) (hr.mono (by omega)) rfl T.c_World T.B_World_init .nil pass0) pa_nil))))
      (pss_cons (ps_set (i := 3) sc_law.nd rfl (Or.inl rfl) (pe_lst (pa_cons (pe_lst pa_nil) (pa_cons (pe_lst pa_nil) pa_nil))))
      (pss_cons (ps_set (i := 4) sc_law.nd rfl (Or.inl rfl) (pe_lst pa_nil))
      (pss_cons (ps_for PassesOwn.never rfl (pi_range1 rfl T.n_range (pa_cons (pe_call (ok_l_draw T) (hr.mono (by omega)) rfl T.m_l_draw T.F_l_draw.kp T.B_l_draw .nil pass0 (pa_cons (pv 0) (pa_cons (pv 1) (pa_cons pe_int pa_nil)))) pa_nil)) (pg_name (i := 5) sc_law.nd rfl (Or.inl rfl))
        (pss_cons (ps_set (i := 6) sc_law.nd rfl (Or.inl rfl) (pe_callTy call_int1 (by rfl) T.n_int PyProof.Rows.boot_int (pa_cons (pe_cmpR op_eq (pe_call (ok_l_draw T) (hr.mono (by omega)) rfl T.m_l_draw T.F_l_draw.kp T.B_l_draw .nil pass0 (pa_cons (pv 0) (pa_cons (pv 1) (pa_cons pe_int pa_nil)))) pe_int (nomark _)) pa_nil)))
        (pss_cons (ps_if (pt_not (pt_val (pe_call (ok_l_done T) (hr.mono (by omega)) rfl T.m_l_done T.F_l_done.kp T.B_l_done .nil pass0 (pa_cons (pv 0) (pa_cons (pv 1) (pa_cons (pe_ix (ix_listK (K := K) rfl) (pv 2) (pv 6) (fun _ _ => rfl)) (pa_cons (pe_ix (ix_listK (K := K) rfl) (pv 3) (pv 6) (fun _ _ => rfl)) pa_nil)))))))
          (pss_one (ps_ret pe_bl))
          pss_nil)
        (pss_one (ps_if (pt_cmpR (neDK (K := K) rfl hr.units) (pe_ix (ix_listK (K := K) rfl) (pv 3) (pv 6) (fun _ _ => rfl)) (pe_lst pa_nil) (nomark _))
          (pss_cons (ps_set (i := 7) sc_law.nd rfl (Or.inl rfl) (pe_call (ok_l_draw T) (hr.mono (by omega)) rfl T.m_l_draw T.F_l_draw.kp T.B_l_draw .nil pass0 (pa_cons (pv 0) (pa_cons (pv 1) (pa_cons (pe_callB (len_seqK (K := K) rfl) (by rfl) T.n_len PySem.boot_len (pa_cons (pe_ix (ix_listK (K := K) rfl) (pv 3) (pv 6) (fun _ _ => rfl)) pa_nil)) pa_nil)))))
          (pss_one (ps_expr (pe_bm PySem.F.plainAttrs_list PySem.F.slot_list_append PySem.F.type_list_append mt_append (pv 4) (pa_cons (pe_tup (pa_cons (pe_meth (pe_ix (ix_listK (K := K) rfl) (pv 2) (pv 6) (fun _ _ => rfl)) T.cl_World T.M_World_inside (ok_World_inside T) (hr.mono (by omega)) T.B_World_inside .nil pass0 (pa_cons (pv 7) pa_nil)) (pa_cons (pe_callTy (tuple_ofK (K := K) rfl) (by rfl) T.n_tuple PyProof.Rows.boot_tuple (pa_cons (pe_ix (ix_listK (K := K) rfl) (pe_ix (ix_listK (K := K) rfl) (pv 3) (pv 6) (fun _ _ => rfl)) (pv 7) (fun _ _ => rfl)) pa_nil)) pa_nil))) pa_nil)))))
          pss_nil)))))
      (pss_one (ps_ret (pe_and (pe_call (ok_l_good T) (hr.mono (by omega)) rfl T.m_l_good T.F_l_good.kp T.B_l_good .nil pass0 (pa_cons (pe_ix (ix_listK (K := K) rfl) (pv 2) pe_int (fun _ _ => rfl)) (pa_cons (pe_ix (ix_listK (K := K) rfl) (pv 3) pe_int (fun _ _ => rfl)) (pa_cons (pv 4) pa_nil)))) (pe_one (pe_call (ok_l_good T) (hr.mono (by omega)) rfl T.m_l_good T.F_l_good.kp T.B_l_good .nil pass0 (pa_cons (pe_ix (ix_listK (K := K) rfl) (pv 2) pe_int (fun _ _ => rfl)) (pa_cons (pe_ix (ix_listK (K := K) rfl) (pv 3) pe_int (fun _ _ => rfl)) (pa_cons (pv 4) pa_nil))))))))))))), ?_⟩
    walk_at "sy"
    rename_i tp Ha na
    refine use_World (T := T) fun x0 la0 dx0 Hb ne0 nx0 nl0 => ?_
    walk_at "sy"
    refine use_World (T := T) fun x1 la1 dx1 Hc ne1 nx1 nl1 => ?_
    walk_at "sy"
    rename_i lw Hd nd lb0 He ne lb1 Hf nf lbx Hg ng lh Hh nh
    refine use_draw (k := 0) (Stays.of hS (by walk_at "sm") na.free) (by walk_at "look") (by omega) (by decide) (fun Hi d ci i0 i1 => ?_)
    obtain ⟨m, rfl⟩ : ∃ m : Nat, d = m := Int.eq_ofNat_of_zero_le i0
    have sH : Same H Hi := by walk_at "sm"
    have w1 : Hi lw = some (.lst [.ref x0, .ref x1]) := by walk_at "look"
    have w2 : Hi lbx = some (.lst [.ref lb0, .ref lb1]) := by walk_at "look"
    have w3 : Hi lh = some (.lst []) := by walk_at "look"
    have w4 : Hi tp = some (.lst [.int ((0 + 1 : Nat) : Int)]) := ci.at_
    have xx0 : Hi x0 = some (.ins T.a_World dx0 [("boxes", .ref la0)]) := by walk_at "look"
    have xx1 : Hi x1 = some (.ins T.a_World dx1 [("boxes", .ref la1)]) := by walk_at "look"
    have l0 : Hi la0 = some (.lst []) := by walk_at "look"
    have l1 : Hi la1 = some (.lst []) := by walk_at "look"
    have l2 : Hi lb0 = some (.lst []) := by walk_at "look"
    have l3 : Hi lb1 = some (.lst []) := by walk_at "look"
    have l2 : Hi lb0 = some (.lst []) := by walk_at "look"
    have l3 : Hi lb1 = some (.lst []) := by walk_at "look"
    have d1 : tp ≠ la0 := by walk_at "ne"
    have d2 : tp ≠ la1 := by walk_at "ne"
    have d3 : tp ≠ lb0 := by walk_at "ne"
    have d4 : tp ≠ lb1 := by walk_at "ne"
    have d5 : la0 ≠ la1 := by walk_at "ne"
    have d6 : la0 ≠ lb0 := by walk_at "ne"
    have d7 : la0 ≠ lb1 := by walk_at "ne"
    have d8 : la1 ≠ lb0 := by walk_at "ne"
    have d9 : la1 ≠ lb1 := by walk_at "ne"
    have d10 : lb0 ≠ lb1 := by walk_at "ne"
    have e1 : lw ≠ la0 := by walk_at "ne"
    have e2 : lw ≠ la1 := by walk_at "ne"
    have e3 : lw ≠ lb0 := by walk_at "ne"
    have e4 : lw ≠ lb1 := by walk_at "ne"
    have e5 : lw ≠ tp := by walk_at "ne"
    have e6 : lbx ≠ la0 := by walk_at "ne"
    have e7 : lbx ≠ la1 := by walk_at "ne"
    have e8 : lbx ≠ lb0 := by walk_at "ne"
    have e9 : lbx ≠ lb1 := by walk_at "ne"
    have e10 : lbx ≠ tp := by walk_at "ne"
    have e11 : lbx ≠ lw := by walk_at "ne"
    have g1 : lh ≠ la0 := by walk_at "ne"
    have g2 : lh ≠ la1 := by walk_at "ne"
    have g3 : lh ≠ lb0 := by walk_at "ne"
    have g4 : lh ≠ lb1 := by walk_at "ne"
    have g5 : lh ≠ tp := by walk_at "ne"
    have g6 : lh ≠ lw := by walk_at "ne"
    have g7 : lh ≠ lbx := by walk_at "ne"
    have fr1 : H la0 = none := by walk_at "fr"
    have fr2 : H la1 = none := by walk_at "fr"
    have fr3 : H lb0 = none := by walk_at "fr"
    have fr4 : H lb1 = none := by walk_at "fr"
    have fr5 : H lh = none := by walk_at "fr"
    have fr6 := na.free
    have two0 : Two H Hi [lw, lbx, lh] tp la0 lb0 la1 lb1 [] [] [] [] [] [] 0 := by
      refine ⟨⟨l0, rfl, fun i p b e => (by simp at e)⟩, ⟨l2, rfl, fun i p b e => (by simp at e)⟩, ⟨l1, rfl, fun i p b e => (by simp at e)⟩, ⟨l3, rfl, fun i p b e => (by simp at e)⟩, ?_, ?_, fun b hb => (by cases hb), fun b hb => (by cases hb), Nat.le_refl _, Nat.le_refl _, ?_, ?_, ?_⟩
      · exact Apart.iff.mpr ⟨d1, d3, d6, fun p hp => (by cases hp), fun p hp => (by cases hp), List.nodup_nil, List.nodup_nil, fun p hp => (by cases hp)⟩
      · exact Apart.iff.mpr ⟨d2, d4, d9, fun p hp => (by cases hp), fun p hp => (by cases hp), List.nodup_nil, List.nodup_nil, fun p hp => (by cases hp)⟩
      · intro a ha b hb
        simp only [Fr, List.append_nil, List.mem_cons, List.not_mem_nil, or_false] at ha hb
        rcases ha with rfl | rfl <;> rcases hb with rfl | rfl
        · exact d5
        · exact d7
        · exact d8.symm
        · exact d10
      · intro a ha
        simp only [Fr, List.append_nil, List.mem_cons, List.not_mem_nil, or_false] at ha
        rcases ha with rfl | rfl
        · exact ⟨fr1, by simp [e1.symm, e6.symm, g1.symm]⟩
        · exact ⟨fr3, by simp [e3.symm, e8.symm, g3.symm]⟩
      · intro a ha
        simp only [Fr, List.append_nil, List.mem_cons, List.not_mem_nil, or_false] at ha
        rcases ha with rfl | rfl
        · exact ⟨fr2, by simp [e2.symm, e7.symm, g2.symm]⟩
        · exact ⟨fr4, by simp [e4.symm, e9.symm, g4.symm]⟩
    clear l0 l1 l2 l3 nx0 nl0 nx1 nl1 nd ne nf ng nh na
    walk_at "sy"
    refine k_forR (fun i σ Hx => ∃ (k : Nat) (ps0 qs0 : List Addr) (bs0 : List (List V)) (ps1 qs1 : List Addr) (bs1 : List (List V)) (hv : List V) (v5 v6 v7 : Option V), σ = [some (.ref a), some (.ref tp), some (.ref lw), some (.ref lbx), some (.ref lh), v5, v6, v7] ∧ Same H Hx ∧ Keep Hi Hx ∧
        Hx tp = some (.lst [.int (k : Int)]) ∧ k ≤ 1 + 40 * i ∧ Hx lw = some (.lst [.ref x0, .ref x1]) ∧ Hx lbx = some (.lst [.ref lb0, .ref lb1]) ∧ Hx lh = some (.lst hv) ∧ hv.length ≤ i ∧ HeldAt Hx hv ∧ Two H Hx [lw, lbx, lh] tp la0 lb0 la1 lb1 ps0 qs0 bs0 ps1 qs1 bs1 i)
      ⟨_, [], [], [], [], [], [], [], none, none, none, rfl, sH, fun _ _ h _ => h, w4, by omega, w1, w2, w3, Nat.le_refl _, fun v hv => (by cases hv), two0⟩ ?_ ?_
    · rintro i σ Hx hi ⟨k, ps0, qs0, bs0, ps1, qs1, bs1, hv, v5, v6, v7, rfl, sx, kx, tx, hk, y1, y2, y3, hvl, hhv, two⟩
      have him : i ≤ 30 := by omega
      walk_at "sy"
      refine use_draw (Stays.of hS sx fr6) tx (by omega) (by decide) (fun Hy d cy j0 j1 => ?_)
      have ty := cy.at_
      have tw0 := two.tape cy.but
      have sy' : Same H Hy := cy.sameOwn sx fr6
      have ky : Keep Hi Hy := Keep.trans kx cy.keepL
      have u1 : Hy lw = some (.lst [.ref x0, .ref x1]) := by walk_at "look"
      have u2 : Hy lbx = some (.lst [.ref lb0, .ref lb1]) := by walk_at "look"
      have u3 : Hy lh = some (.lst hv) := by walk_at "look"
      have v0 := ky _ _ xx0 trivial
      have v1 := ky _ _ xx1 trivial
      have hhy := hhv.keep cy.keepL
      clear cy two hhv y1 y2 y3 tx
      have hL : ∀ a ∈ [lw, lbx, lh], ∃ o, Hy a = some o := fun a ha => by
        simp only [List.mem_cons, List.not_mem_nil, or_false] at ha
        rcases ha with rfl | rfl | rfl
        · exact ⟨_, u1⟩
        · exact ⟨_, u2⟩
        · exact ⟨_, u3⟩
      by_cases e0 : d = 0
      · subst e0
        have tw := tw0.swap
        have hSF : ∀ H', (∀ b o, Hy b = some o → b ∉ Rg tp la1 lb1 ps1 qs1 → H' b = some o) → SqL K H' a (ns.map V.int) := fun H' h => Same.seq (fun b o e => h b o (sy' b o e) fun m => by
          simp only [Rg, List.mem_cons] at m
          rcases m with rfl | m
          · rw [fr6] at e
            cases e
          · have := (tw.f0 b (by simpa only [Fr, List.mem_cons] using m)).1
            rw [this] at e
            cases e) hS
        have nL : ∀ a ∈ [lw, lbx, lh], a ∉ Rg tp la1 lb1 ps1 qs1 := fun a ha m => by
          simp only [Rg, List.mem_cons] at m
          rcases m with rfl | m
          · simp only [List.mem_cons, List.not_mem_nil, or_false] at ha
            rcases ha with h | h | h
            · exact e5 h.symm
            · exact e10 h.symm
            · exact g5 h.symm
          · exact (tw.f0 a (by simpa only [Fr, List.mem_cons] using m)).2 ha
        have twl := tw.l0
        walk_at "sy"
        refine ⟨a, tp, x1, la1, lb1, ns, _, ps1, qs1, bs1, rfl, ⟨dx1, v1⟩, hSF, ty, by omega, tw.a0, tw.b0, tw.n0, tw.g0, by omega, fun Hd kd ps' qs' bs' bd td hkd ha hb nd hf hg hl => ?_⟩
        have t2 := tw.step sy' hL bd ha hb nd hf hg hl
        have z1 : Hd lw = some (.lst [.ref x0, .ref x1]) := bd.get _ _ u1 (nL _ (by simp))
        have z2 : Hd lbx = some (.lst [.ref lb0, .ref lb1]) := bd.get _ _ u2 (nL _ (by simp))
        have z3 : Hd lh = some (.lst hv) := bd.get _ _ u3 (nL _ (by simp))
        have kd' : Keep Hy Hd := bd.keep fun a ha => by
          simp only [Rg, List.mem_cons] at ha
          rcases ha with rfl | ha
          · exact ⟨_, ty⟩
          · exact tw.alive (by simpa only [Fr, List.mem_cons] using ha)
        have sd : Same H Hd := fun b o e => bd.get b o (sy' b o e) fun m => by
          simp only [Rg, List.mem_cons] at m
          rcases m with rfl | m
          · rw [fr6] at e
            cases e
          · have := (tw.f0 b (by simpa only [Fr, List.mem_cons] using m)).1
            rw [this] at e
            cases e
        walk_at "sy"
        rename_i e He ne
        have hbe := hb.1
        refine ⟨.list (bs'.map bxD), .list [], Bx.dp (hb.frame fun a o _ h => ne.get h) hg, .lst (SqL.of ne.at_) .nil, bxsD_sh hg, by decide +kernel, ?_⟩
        rw [eqv_nil]
        by_cases eb : bs' = []
        · refine ⟨_, rfl, iteBF (by rw [eb]; rfl) ?_⟩
          walk_at "sy"
          have t3 := t2.more (H' := He) fun a o _ h => ne.get h
          exact ⟨kd, ps0, qs0, bs0, ps', qs', bs', hv, _, _, _, rfl, sd.trans ne.same, Keep.trans ky (kd'.trans ne.keep), ne.get td, by omega, ne.get z1, ne.get z2, ne.get z3, by omega, hhy.keep (kd'.trans ne.keep), t3.swap⟩
        · have hpos : 0 < bs'.length := List.length_pos_iff.mpr eb
          have e2 : bs'.isEmpty = false := by
            cases bs' with
            | nil => exact absurd rfl eb
            | cons b r => rfl
          refine ⟨_, rfl, iteBT (by rw [e2]; rfl) ?_⟩
          have hqm : (qs'.map V.ref).length = bs'.length := by rw [List.length_map]; exact hb.2.1
          have hbeE := ne.get hbe
          walk_at "sy"
          refine use_draw (Stays.of hS (sd.trans ne.same) fr6) (ne.get td) (by omega) (by omega) (fun Hk di ck w0 w1 => ?_)
          obtain ⟨ib, rfl⟩ : ∃ ib : Nat, di = ib := Int.eq_ofNat_of_zero_le w0
          obtain ⟨b, hbi⟩ : ∃ b, bs'[ib]? = some b := ⟨_, List.getElem?_eq_getElem (by omega)⟩
          have t3a := (t2.more (H' := He) fun a o _ h => ne.get h).tape ck.but
          have aa := t3a.a0
          have bb := t3a.b0
          obtain ⟨pp, p1, p2, p3, p4⟩ := aa.at hbi
          obtain ⟨qq, q1, q2, q3, q4⟩ := bb.at hbi
          have k1 : Hk lw = some (.lst [.ref x0, .ref x1]) := by walk_at "look"
          have k2 : Hk lbx = some (.lst [.ref lb0, .ref lb1]) := by walk_at "look"
          have k3 : Hk lh = some (.lst hv) := by walk_at "look"
          have kk : Keep Hy Hk := kd'.trans (ne.keep.trans ck.keepL)
          have vv := kk _ _ v1 trivial
          have bb1 := bb.1
          have sk : Same H Hk := ck.sameOwn (sd.trans ne.same) fr6
          have hgb := hg b (List.mem_of_getElem? hbi)
          walk_at "sy"
          refine ⟨x1, la1, pp, ib, _, b, rfl, ⟨dx1, by walk_at "look"⟩, by first | exact aa.1 | walk_at "look", p3, by walk_at "look", fun t Hl nl => ?_⟩
          walk_at "sy"
          rename_i t2' _ Hm nm t3' Hn nn Ho co
          have so : Same H Ho := co.sameOwn (sk.trans (nl.same.trans (nm.same.trans nn.same))) fr5
          have ko : Keep Hk Ho := by walk_at "kp"
          have t3 := t3a.more (H' := Ho) fun a o m h => co.but _ _ (nn.get (nm.get (nl.get h))) fun z => m (by simp [z])
          refine ⟨_, ps0, qs0, bs0, ps', qs', bs', _, _, _, _, rfl, so, Keep.trans ky (kk.trans ko), by walk_at "look", by omega, by walk_at "look", by walk_at "look", co.at_, by simp only [List.length_append, List.length_cons, List.length_nil]; omega, fun v hv' => ?_, t3.swap⟩
          rcases List.mem_append.mp hv' with h | h
          · exact hhy.keep (kk.trans ko) v h
          · obtain rfl : v = _ := by simpa using h
            exact ⟨t3', t, t2', b, rfl, by walk_at "look", by walk_at "look", by walk_at "look", hgb.all⟩
      · walk_at "sy"
        rw [decide_eq_false e0]
        have tw := tw0
        have hSF : ∀ H', (∀ b o, Hy b = some o → b ∉ Rg tp la0 lb0 ps0 qs0 → H' b = some o) → SqL K H' a (ns.map V.int) := fun H' h => Same.seq (fun b o e => h b o (sy' b o e) fun m => by
          simp only [Rg, List.mem_cons] at m
          rcases m with rfl | m
          · rw [fr6] at e
            cases e
          · have := (tw.f0 b (by simpa only [Fr, List.mem_cons] using m)).1
            rw [this] at e
            cases e) hS
        have nL : ∀ a ∈ [lw, lbx, lh], a ∉ Rg tp la0 lb0 ps0 qs0 := fun a ha m => by
          simp only [Rg, List.mem_cons] at m
          rcases m with rfl | m
          · simp only [List.mem_cons, List.not_mem_nil, or_false] at ha
            rcases ha with h | h | h
            · exact e5 h.symm
            · exact e10 h.symm
            · exact g5 h.symm
          · exact (tw.f0 a (by simpa only [Fr, List.mem_cons] using m)).2 ha
        have twl := tw.l0
        walk_at "sy"
        refine ⟨a, tp, x0, la0, lb0, ns, _, ps0, qs0, bs0, rfl, ⟨dx0, v0⟩, hSF, ty, by omega, tw.a0, tw.b0, tw.n0, tw.g0, by omega, fun Hd kd ps' qs' bs' bd td hkd ha hb nd hf hg hl => ?_⟩
        have t2 := tw.step sy' hL bd ha hb nd hf hg hl
        have z1 : Hd lw = some (.lst [.ref x0, .ref x1]) := bd.get _ _ u1 (nL _ (by simp))
        have z2 : Hd lbx = some (.lst [.ref lb0, .ref lb1]) := bd.get _ _ u2 (nL _ (by simp))
        have z3 : Hd lh = some (.lst hv) := bd.get _ _ u3 (nL _ (by simp))
        have kd' : Keep Hy Hd := bd.keep fun a ha => by
          simp only [Rg, List.mem_cons] at ha
          rcases ha with rfl | ha
          · exact ⟨_, ty⟩
          · exact tw.alive (by simpa only [Fr, List.mem_cons] using ha)
        have sd : Same H Hd := fun b o e => bd.get b o (sy' b o e) fun m => by
          simp only [Rg, List.mem_cons] at m
          rcases m with rfl | m
          · rw [fr6] at e
            cases e
          · have := (tw.f0 b (by simpa only [Fr, List.mem_cons] using m)).1
            rw [this] at e
            cases e
        walk_at "sy"
        rename_i e He ne
        have hbe := hb.1
        refine ⟨.list (bs'.map bxD), .list [], Bx.dp (hb.frame fun a o _ h => ne.get h) hg, .lst (SqL.of ne.at_) .nil, bxsD_sh hg, by decide +kernel, ?_⟩
        rw [eqv_nil]
        by_cases eb : bs' = []
        · refine ⟨_, rfl, iteBF (by rw [eb]; rfl) ?_⟩
          walk_at "sy"
          have t3 := t2.more (H' := He) fun a o _ h => ne.get h
          exact ⟨kd, ps', qs', bs', ps1, qs1, bs1, hv, _, _, _, rfl, sd.trans ne.same, Keep.trans ky (kd'.trans ne.keep), ne.get td, by omega, ne.get z1, ne.get z2, ne.get z3, by omega, hhy.keep (kd'.trans ne.keep), t3⟩
        · have hpos : 0 < bs'.length := List.length_pos_iff.mpr eb
          have e2 : bs'.isEmpty = false := by
            cases bs' with
            | nil => exact absurd rfl eb
            | cons b r => rfl
          refine ⟨_, rfl, iteBT (by rw [e2]; rfl) ?_⟩
          have hqm : (qs'.map V.ref).length = bs'.length := by rw [List.length_map]; exact hb.2.1
          have hbeE := ne.get hbe
          walk_at "sy"
          refine use_draw (Stays.of hS (sd.trans ne.same) fr6) (ne.get td) (by omega) (by omega) (fun Hk di ck w0 w1 => ?_)
          obtain ⟨ib, rfl⟩ : ∃ ib : Nat, di = ib := Int.eq_ofNat_of_zero_le w0
          obtain ⟨b, hbi⟩ : ∃ b, bs'[ib]? = some b := ⟨_, List.getElem?_eq_getElem (by omega)⟩
          have t3a := (t2.more (H' := He) fun a o _ h => ne.get h).tape ck.but
          have aa := t3a.a0
          have bb := t3a.b0
          obtain ⟨pp, p1, p2, p3, p4⟩ := aa.at hbi
          obtain ⟨qq, q1, q2, q3, q4⟩ := bb.at hbi
          have k1 : Hk lw = some (.lst [.ref x0, .ref x1]) := by walk_at "look"
          have k2 : Hk lbx = some (.lst [.ref lb0, .ref lb1]) := by walk_at "look"
          have k3 : Hk lh = some (.lst hv) := by walk_at "look"
          have kk : Keep Hy Hk := kd'.trans (ne.keep.trans ck.keepL)
          have vv := kk _ _ v0 trivial
          have bb1 := bb.1
          have sk : Same H Hk := ck.sameOwn (sd.trans ne.same) fr6
          have hgb := hg b (List.mem_of_getElem? hbi)
          walk_at "sy"
          refine ⟨x0, la0, pp, ib, _, b, rfl, ⟨dx0, by walk_at "look"⟩, by first | exact aa.1 | walk_at "look", p3, by walk_at "look", fun t Hl nl => ?_⟩
          walk_at "sy"
          rename_i t2' _ Hm nm t3' Hn nn Ho co
          have so : Same H Ho := co.sameOwn (sk.trans (nl.same.trans (nm.same.trans nn.same))) fr5
          have ko : Keep Hk Ho := by walk_at "kp"
          have t3 := t3a.more (H' := Ho) fun a o m h => co.but _ _ (nn.get (nm.get (nl.get h))) fun z => m (by simp [z])
          refine ⟨_, ps', qs', bs', ps1, qs1, bs1, _, _, _, _, rfl, so, Keep.trans ky (kk.trans ko), by walk_at "look", by omega, by walk_at "look", by walk_at "look", co.at_, by simp only [List.length_append, List.length_cons, List.length_nil]; omega, fun v hv' => ?_, t3⟩
          rcases List.mem_append.mp hv' with h | h
          · exact hhy.keep (kk.trans ko) v h
          · obtain rfl : v = _ := by simpa using h
            exact ⟨t3', t, t2', b, rfl, by walk_at "look", by walk_at "look", by walk_at "look", hgb.all⟩
    · rintro σ Hx ⟨k, ps0, qs0, bs0, ps1, qs1, bs1, hv, v5, v6, v7, rfl, sx, kx, tx, hk, y1, y2, y3, hvl, hhv, two⟩
      have v0 := kx _ _ xx0 trivial
      have v1 := kx _ _ xx1 trivial
      have l0 := two.l0
      have l1 := two.l1
      walk_at "sy"
      refine ⟨x0, la0, lb0, lh, ps0, qs0, bs0, hv, rfl, ⟨dx0, v0⟩, two.a0, two.b0, two.g0, by omega, y3, hhv, by omega, fun Hy sy => ?_⟩
      walk_at "sy"
      refine ⟨x1, la1, lb1, lh, ps1, qs1, bs1, hv, rfl, ⟨dx1, sy _ _ v1⟩, two.a1.frame fun a o _ h => sy _ _ h, two.b1.frame fun a o _ h => sy _ _ h, two.g1, by omega, sy _ _ y3, hhv.keep (Keep.of sy), by omega, fun Hz sz => ?_⟩
      exact q _
end
theorem all_mk {l : PySem.W.OpenLaw} {w : World} {K : PySem.W.Frag} {h : Heap} {mg : Str → Option Value} {fa a_World f_World_init f_World_make f_World_read f_World_write f_World_many f_World_inside f_l_draw f_l_alike f_l_value f_l_done f_l_good f_law : Addr} (X : K.In h) (G : h.Ns mainGlobals mg) (hfa : mg "law" = some (.ref fa))
    {od_World_init an_World_init od_World_make an_World_make od_World_read an_World_read od_World_write an_World_write od_World_many an_World_many od_World_inside an_World_inside od_l_draw an_l_draw od_l_alike an_l_alike od_l_value an_l_value od_l_done an_l_done od_l_good an_l_good od_law an_law : Option Addr} {sl_World_init sl_World_make sl_World_read sl_World_write sl_World_many sl_World_inside sl_l_draw sl_l_alike sl_l_value sl_l_done sl_l_good sl_law : Array (Option Value)} {oc_World_init kV_World_init dc_World_init pm_World_init cd_World_init ct_World_init oc_World_make kV_World_make dc_World_make pm_World_make cd_World_make ct_World_make oc_World_read kV_World_read dc_World_read pm_World_read cd_World_read ct_World_read oc_World_write kV_World_write dc_World_write pm_World_write cd_World_write ct_World_write oc_World_many kV_World_many dc_World_many pm_World_many cd_World_many ct_World_many oc_World_inside kV_World_inside dc_World_inside pm_World_inside cd_World_inside ct_World_inside oc_l_draw kV_l_draw dc_l_draw pm_l_draw cd_l_draw ct_l_draw oc_l_alike kV_l_alike dc_l_alike pm_l_alike cd_l_alike ct_l_alike oc_l_value kV_l_value dc_l_value pm_l_value cd_l_value ct_l_value oc_l_done kV_l_done dc_l_done pm_l_done cd_l_done ct_l_done oc_l_good kV_l_good dc_l_good pm_l_good cd_l_good ct_l_good oc_law kV_law dc_law pm_law cd_law ct_law : Value}
    (zn_list : PySem.W.nsIn K mainGlobals "list" = some none)
    (zn_len : PySem.W.nsIn K mainGlobals "len" = some none)
    (zn_tuple : PySem.W.nsIn K mainGlobals "tuple" = some none)
    (zn_isinstance : PySem.W.nsIn K mainGlobals "isinstance" = some none)
    (zn_all : PySem.W.nsIn K mainGlobals "all" = some none)
    (zn_zip : PySem.W.nsIn K mainGlobals "zip" = some none)
    (zn_int : PySem.W.nsIn K mainGlobals "int" = some none)
    (zn_bool : PySem.W.nsIn K mainGlobals "bool" = some none)
    (zn_str : PySem.W.nsIn K mainGlobals "str" = some none)
    (zn_range : PySem.W.nsIn K mainGlobals "range" = some none)
    (zc_World : PySem.W.nsIn K mainGlobals "World" = some (some (.ref a_World)))
    (zpg_World : PySem.W.plainGet K a_World Str.empty = true)
    (zhd_World : PySem.W.hasDictIn K a_World = true)
    (zpo_World : PySem.W.plainOver K a_World = true)
    (zsa_World : PySem.W.findIn K (.ref a_World) "__setattr__" = some (some (.builtin "object.__setattr__")))
    (zmk_World : PySem.W.makesIn K a_World = true)
    (zkc_World : PySem.W.keepIn K (.ref a_World) = true)
    (zna_World_boxes : PySem.W.findIn K (.ref a_World) "boxes" = some none)
    (za_World_init : PySem.W.findIn K (.ref a_World) "__init__" = some (some (.ref f_World_init)))
    (zi_World_init : PySem.W.isFn K (.ref f_World_init) = true)
    (zl_World_init : K.lookup f_World_init = some ⟨oc_World_init, od_World_init, .func (PySem.W.fnOf "__init__" "World.__init__" (defArgs s_World_init) (defBody s_World_init) (defScope s_World_init) .none kV_World_init dc_World_init pm_World_init an_World_init cd_World_init ct_World_init), sl_World_init⟩)
    (zd_World_init : PySem.W.codeIn K cd_World_init "World.__init__" = true)
    (zk_World_init : PySem.W.keepIn K (.ref f_World_init) = true)
    (zm_World_make : PySem.W.findIn K (.ref a_World) "make" = some (some (.ref f_World_make)))
    (zi_World_make : PySem.W.isFn K (.ref f_World_make) = true)
    (zl_World_make : K.lookup f_World_make = some ⟨oc_World_make, od_World_make, .func (PySem.W.fnOf "make" "World.make" (defArgs s_World_make) (defBody s_World_make) (defScope s_World_make) .none kV_World_make dc_World_make pm_World_make an_World_make cd_World_make ct_World_make), sl_World_make⟩)
    (zd_World_make : PySem.W.codeIn K cd_World_make "World.make" = true)
    (zk_World_make : PySem.W.keepIn K (.ref f_World_make) = true)
    (zm_World_read : PySem.W.findIn K (.ref a_World) "read" = some (some (.ref f_World_read)))
    (zi_World_read : PySem.W.isFn K (.ref f_World_read) = true)
    (zl_World_read : K.lookup f_World_read = some ⟨oc_World_read, od_World_read, .func (PySem.W.fnOf "read" "World.read" (defArgs s_World_read) (defBody s_World_read) (defScope s_World_read) .none kV_World_read dc_World_read pm_World_read an_World_read cd_World_read ct_World_read), sl_World_read⟩)
    (zd_World_read : PySem.W.codeIn K cd_World_read "World.read" = true)
    (zk_World_read : PySem.W.keepIn K (.ref f_World_read) = true)
    (zm_World_write : PySem.W.findIn K (.ref a_World) "write" = some (some (.ref f_World_write)))
    (zi_World_write : PySem.W.isFn K (.ref f_World_write) = true)
    (zl_World_write : K.lookup f_World_write = some ⟨oc_World_write, od_World_write, .func (PySem.W.fnOf "write" "World.write" (defArgs s_World_write) (defBody s_World_write) (defScope s_World_write) .none kV_World_write dc_World_write pm_World_write an_World_write cd_World_write ct_World_write), sl_World_write⟩)
    (zd_World_write : PySem.W.codeIn K cd_World_write "World.write" = true)
    (zk_World_write : PySem.W.keepIn K (.ref f_World_write) = true)
    (zm_World_many : PySem.W.findIn K (.ref a_World) "many" = some (some (.ref f_World_many)))
    (zi_World_many : PySem.W.isFn K (.ref f_World_many) = true)
    (zl_World_many : K.lookup f_World_many = some ⟨oc_World_many, od_World_many, .func (PySem.W.fnOf "many" "World.many" (defArgs s_World_many) (defBody s_World_many) (defScope s_World_many) .none kV_World_many dc_World_many pm_World_many an_World_many cd_World_many ct_World_many), sl_World_many⟩)
    (zd_World_many : PySem.W.codeIn K cd_World_many "World.many" = true)
    (zk_World_many : PySem.W.keepIn K (.ref f_World_many) = true)
    (zm_World_inside : PySem.W.findIn K (.ref a_World) "inside" = some (some (.ref f_World_inside)))
    (zi_World_inside : PySem.W.isFn K (.ref f_World_inside) = true)
    (zl_World_inside : K.lookup f_World_inside = some ⟨oc_World_inside, od_World_inside, .func (PySem.W.fnOf "inside" "World.inside" (defArgs s_World_inside) (defBody s_World_inside) (defScope s_World_inside) .none kV_World_inside dc_World_inside pm_World_inside an_World_inside cd_World_inside ct_World_inside), sl_World_inside⟩)
    (zd_World_inside : PySem.W.codeIn K cd_World_inside "World.inside" = true)
    (zk_World_inside : PySem.W.keepIn K (.ref f_World_inside) = true)
    (za_l_draw : PySem.W.nsIn K mainGlobals "_law_draw" = some (some (.ref f_l_draw)))
    (zl_l_draw : K.lookup f_l_draw = some ⟨oc_l_draw, od_l_draw, .func (PySem.W.fnOf "_law_draw" "_law_draw" (defArgs s_l_draw) (defBody s_l_draw) (defScope s_l_draw) .none kV_l_draw dc_l_draw pm_l_draw an_l_draw cd_l_draw ct_l_draw), sl_l_draw⟩)
    (zd_l_draw : PySem.W.codeIn K cd_l_draw "_law_draw" = true)
    (zk_l_draw : PySem.W.keepIn K (.ref f_l_draw) = true)
    (za_l_alike : PySem.W.nsIn K mainGlobals "_law_alike" = some (some (.ref f_l_alike)))
    (zl_l_alike : K.lookup f_l_alike = some ⟨oc_l_alike, od_l_alike, .func (PySem.W.fnOf "_law_alike" "_law_alike" (defArgs s_l_alike) (defBody s_l_alike) (defScope s_l_alike) .none kV_l_alike dc_l_alike pm_l_alike an_l_alike cd_l_alike ct_l_alike), sl_l_alike⟩)
    (zd_l_alike : PySem.W.codeIn K cd_l_alike "_law_alike" = true)
    (zk_l_alike : PySem.W.keepIn K (.ref f_l_alike) = true)
    (za_l_value : PySem.W.nsIn K mainGlobals "_law_value" = some (some (.ref f_l_value)))
    (zl_l_value : K.lookup f_l_value = some ⟨oc_l_value, od_l_value, .func (PySem.W.fnOf "_law_value" "_law_value" (defArgs s_l_value) (defBody s_l_value) (defScope s_l_value) .none kV_l_value dc_l_value pm_l_value an_l_value cd_l_value ct_l_value), sl_l_value⟩)
    (zd_l_value : PySem.W.codeIn K cd_l_value "_law_value" = true)
    (zk_l_value : PySem.W.keepIn K (.ref f_l_value) = true)
    (za_l_done : PySem.W.nsIn K mainGlobals "_law_done" = some (some (.ref f_l_done)))
    (zl_l_done : K.lookup f_l_done = some ⟨oc_l_done, od_l_done, .func (PySem.W.fnOf "_law_done" "_law_done" (defArgs s_l_done) (defBody s_l_done) (defScope s_l_done) .none kV_l_done dc_l_done pm_l_done an_l_done cd_l_done ct_l_done), sl_l_done⟩)
    (zd_l_done : PySem.W.codeIn K cd_l_done "_law_done" = true)
    (zk_l_done : PySem.W.keepIn K (.ref f_l_done) = true)
    (za_l_good : PySem.W.nsIn K mainGlobals "_law_good" = some (some (.ref f_l_good)))
    (zl_l_good : K.lookup f_l_good = some ⟨oc_l_good, od_l_good, .func (PySem.W.fnOf "_law_good" "_law_good" (defArgs s_l_good) (defBody s_l_good) (defScope s_l_good) .none kV_l_good dc_l_good pm_l_good an_l_good cd_l_good ct_l_good), sl_l_good⟩)
    (zd_l_good : PySem.W.codeIn K cd_l_good "_law_good" = true)
    (zk_l_good : PySem.W.keepIn K (.ref f_l_good) = true)
    (za_law : PySem.W.nsIn K mainGlobals "law" = some (some (.ref f_law)))
    (zl_law : K.lookup f_law = some ⟨oc_law, od_law, .func (PySem.W.fnOf "law" "law" (defArgs s_law) (defBody s_law) (defScope s_law) .none kV_law dc_law pm_law an_law cd_law ct_law), sl_law⟩)
    (zd_law : PySem.W.codeIn K cd_law "law" = true)
    (zk_law : PySem.W.keepIn K (.ref f_law) = true)
    : ∃ fd : FuncData, (∀ (s : Shared) (v : Value), BindsTo s fd ⟨[v], []⟩ [("_law_script", v)]) ∧ ∀ base : Heap, K.In base → base.Ns mainGlobals mg → FnOk l.prog w K mg base CX0 12 fa fd ["_law_script"] (spLaw K) := by
  have e := hfa.symm.trans (PySem.W.mg_of X G za_law)
  cases e
  have F_World_init := fun_mk (st := s_World_init) zl_World_init zd_World_init zk_World_init
  have B_World_init := F_World_init.binds (ps := ["self"]) fun _ _ _ _ _ _ us hl => match us, hl with | [_], _ => rfl
  have F_World_make := fun_mk (st := s_World_make) zl_World_make zd_World_make zk_World_make
  have B_World_make := F_World_make.binds (ps := ["self", "record", "values"]) fun _ _ _ _ _ _ us hl => match us, hl with | [_, _, _], _ => rfl
  have F_World_read := fun_mk (st := s_World_read) zl_World_read zd_World_read zk_World_read
  have B_World_read := F_World_read.binds (ps := ["self", "box", "at"]) fun _ _ _ _ _ _ us hl => match us, hl with | [_, _, _], _ => rfl
  have F_World_write := fun_mk (st := s_World_write) zl_World_write zd_World_write zk_World_write
  have B_World_write := F_World_write.binds (ps := ["self", "box", "at", "value"]) fun _ _ _ _ _ _ us hl => match us, hl with | [_, _, _, _], _ => rfl
  have F_World_many := fun_mk (st := s_World_many) zl_World_many zd_World_many zk_World_many
  have B_World_many := F_World_many.binds (ps := ["self"]) fun _ _ _ _ _ _ us hl => match us, hl with | [_], _ => rfl
  have F_World_inside := fun_mk (st := s_World_inside) zl_World_inside zd_World_inside zk_World_inside
  have B_World_inside := F_World_inside.binds (ps := ["self", "box"]) fun _ _ _ _ _ _ us hl => match us, hl with | [_, _], _ => rfl
  have F_l_draw := fun_mk (st := s_l_draw) zl_l_draw zd_l_draw zk_l_draw
  have B_l_draw := F_l_draw.binds (ps := ["_law_script", "_law_tape", "_law_many"]) fun _ _ _ _ _ _ us hl => match us, hl with | [_, _, _], _ => rfl
  have F_l_alike := fun_mk (st := s_l_alike) zl_l_alike zd_l_alike zk_l_alike
  have B_l_alike := F_l_alike.binds (ps := ["_law_found", "_law_due"]) fun _ _ _ _ _ _ us hl => match us, hl with | [_, _], _ => rfl
  have F_l_value := fun_mk (st := s_l_value) zl_l_value zd_l_value zk_l_value
  have B_l_value := F_l_value.binds (ps := ["_law_script", "_law_tape", "_law_many"]) fun _ _ _ _ _ _ us hl => match us, hl with | [_, _, _], _ => rfl
  have F_l_done := fun_mk (st := s_l_done) zl_l_done zd_l_done zk_l_done
  have B_l_done := F_l_done.binds (ps := ["_law_script", "_law_tape", "_law_world", "_law_boxes"]) fun _ _ _ _ _ _ us hl => match us, hl with | [_, _, _, _], _ => rfl
  have F_l_good := fun_mk (st := s_l_good) zl_l_good zd_l_good zk_l_good
  have B_l_good := F_l_good.binds (ps := ["_law_world", "_law_boxes", "_law_held"]) fun _ _ _ _ _ _ us hl => match us, hl with | [_, _, _], _ => rfl
  have F_law := fun_mk (st := s_law) zl_law zd_law zk_law
  have B_law := F_law.binds (ps := ["_law_script"]) fun _ _ _ _ _ _ us hl => match us, hl with | [_], _ => rfl
  let T : Tx K mg := {
    n_list := PySem.W.mg_none_of X G zn_list
    n_len := PySem.W.mg_none_of X G zn_len
    n_tuple := PySem.W.mg_none_of X G zn_tuple
    n_isinstance := PySem.W.mg_none_of X G zn_isinstance
    n_all := PySem.W.mg_none_of X G zn_all
    n_zip := PySem.W.mg_none_of X G zn_zip
    n_int := PySem.W.mg_none_of X G zn_int
    n_bool := PySem.W.mg_none_of X G zn_bool
    n_str := PySem.W.mg_none_of X G zn_str
    n_range := PySem.W.mg_none_of X G zn_range
    a_World := a_World
    c_World := PySem.W.mg_of X G zc_World
    cl_World := ⟨zpg_World, zhd_World, zpo_World, zsa_World⟩
    na_World_boxes := zna_World_boxes
    f_World_init := f_World_init
    d_World_init := _
    F_World_init := F_World_init
    B_World_init := B_World_init
    Mk_World := ⟨zmk_World, za_World_init, zi_World_init, zkc_World⟩
    f_World_make := f_World_make
    d_World_make := _
    F_World_make := F_World_make
    B_World_make := B_World_make
    f_World_read := f_World_read
    d_World_read := _
    F_World_read := F_World_read
    B_World_read := B_World_read
    f_World_write := f_World_write
    d_World_write := _
    F_World_write := F_World_write
    B_World_write := B_World_write
    f_World_many := f_World_many
    d_World_many := _
    F_World_many := F_World_many
    B_World_many := B_World_many
    f_World_inside := f_World_inside
    d_World_inside := _
    F_World_inside := F_World_inside
    B_World_inside := B_World_inside
    f_l_draw := f_l_draw
    d_l_draw := _
    F_l_draw := F_l_draw
    B_l_draw := B_l_draw
    m_l_draw := PySem.W.mg_of X G za_l_draw
    f_l_alike := f_l_alike
    d_l_alike := _
    F_l_alike := F_l_alike
    B_l_alike := B_l_alike
    m_l_alike := PySem.W.mg_of X G za_l_alike
    f_l_value := f_l_value
    d_l_value := _
    F_l_value := F_l_value
    B_l_value := B_l_value
    m_l_value := PySem.W.mg_of X G za_l_value
    f_l_done := f_l_done
    d_l_done := _
    F_l_done := F_l_done
    B_l_done := B_l_done
    m_l_done := PySem.W.mg_of X G za_l_done
    f_l_good := f_l_good
    d_l_good := _
    F_l_good := F_l_good
    B_l_good := B_l_good
    m_l_good := PySem.W.mg_of X G za_l_good
    f_law := fa
    d_law := _
    F_law := F_law
    B_law := B_law
    m_law := PySem.W.mg_of X G za_law
    M_World_make := ⟨zm_World_make, zi_World_make, zk_World_make⟩
    M_World_read := ⟨zm_World_read, zi_World_read, zk_World_read⟩
    M_World_write := ⟨zm_World_write, zi_World_write, zk_World_write⟩
    M_World_many := ⟨zm_World_many, zi_World_many, zk_World_many⟩
    M_World_inside := ⟨zm_World_inside, zi_World_inside, zk_World_inside⟩ }
  exact ⟨PySem.W.fnOf "law" "law" (defArgs s_law) (defBody s_law) (defScope s_law) .none kV_law dc_law pm_law an_law cd_law ct_law, fun s v => .of_eq rfl, fun base _ _ => ok_law T⟩
/-! ### the head: facts as Bool functions of the written part, one kernel run of the top -/
def hf0 : List (PySem.W.Frag → Bool) := [fun K => He.eqO (PySem.W.nsIn K mainGlobals "list") (some none),
  fun K => He.eqO (PySem.W.nsIn K mainGlobals "len") (some none),
  fun K => He.eqO (PySem.W.nsIn K mainGlobals "tuple") (some none),
  fun K => He.eqO (PySem.W.nsIn K mainGlobals "isinstance") (some none),
  fun K => He.eqO (PySem.W.nsIn K mainGlobals "all") (some none),
  fun K => He.eqO (PySem.W.nsIn K mainGlobals "zip") (some none),
  fun K => He.eqO (PySem.W.nsIn K mainGlobals "int") (some none),
  fun K => He.eqO (PySem.W.nsIn K mainGlobals "bool") (some none),
  fun K => He.eqO (PySem.W.nsIn K mainGlobals "str") (some none),
  fun K => He.eqO (PySem.W.nsIn K mainGlobals "range") (some none),
  fun K => He.eqO (PySem.W.nsIn K mainGlobals "World") (some (some (.ref (He.ga K "World")))),
  fun K => PySem.W.plainGet K (He.ga K "World") Str.empty,
  fun K => PySem.W.hasDictIn K (He.ga K "World"),
  fun K => PySem.W.plainOver K (He.ga K "World"),
  fun K => He.eqO (PySem.W.findIn K (.ref (He.ga K "World")) "__setattr__") (some (some (.builtin "object.__setattr__"))),
  fun K => PySem.W.makesIn K (He.ga K "World"),
  fun K => PySem.W.keepIn K (.ref (He.ga K "World")),
  fun K => He.eqO (PySem.W.findIn K (.ref (He.ga K "World")) "boxes") (some none),
  fun K => He.eqO (PySem.W.findIn K (.ref (He.ga K "World")) "__init__") (some (some (.ref (He.fAd K ("World", some "__init__"))))),
  fun K => PySem.W.isFn K (.ref (He.fAd K ("World", some "__init__"))),
  fun K => PySem.W.keepIn K (.ref (He.fAd K ("World", some "__init__"))),
  fun K => He.eqO (PySem.W.findIn K (.ref (He.ga K "World")) "make") (some (some (.ref (He.fAd K ("World", some "make"))))),
  fun K => PySem.W.isFn K (.ref (He.fAd K ("World", some "make"))),
  fun K => PySem.W.keepIn K (.ref (He.fAd K ("World", some "make"))),
  fun K => He.eqO (PySem.W.findIn K (.ref (He.ga K "World")) "read") (some (some (.ref (He.fAd K ("World", some "read")))))]
def hf1 : List (PySem.W.Frag → Bool) := [fun K => PySem.W.isFn K (.ref (He.fAd K ("World", some "read"))),
  fun K => PySem.W.keepIn K (.ref (He.fAd K ("World", some "read"))),
  fun K => He.eqO (PySem.W.findIn K (.ref (He.ga K "World")) "write") (some (some (.ref (He.fAd K ("World", some "write"))))),
  fun K => PySem.W.isFn K (.ref (He.fAd K ("World", some "write"))),
  fun K => PySem.W.keepIn K (.ref (He.fAd K ("World", some "write"))),
  fun K => He.eqO (PySem.W.findIn K (.ref (He.ga K "World")) "many") (some (some (.ref (He.fAd K ("World", some "many"))))),
  fun K => PySem.W.isFn K (.ref (He.fAd K ("World", some "many"))),
  fun K => PySem.W.keepIn K (.ref (He.fAd K ("World", some "many"))),
  fun K => He.eqO (PySem.W.findIn K (.ref (He.ga K "World")) "inside") (some (some (.ref (He.fAd K ("World", some "inside"))))),
  fun K => PySem.W.isFn K (.ref (He.fAd K ("World", some "inside"))),
  fun K => PySem.W.keepIn K (.ref (He.fAd K ("World", some "inside"))),
  fun K => He.eqO (PySem.W.nsIn K mainGlobals "_law_draw") (some (some (.ref (He.fAd K ("_law_draw", none))))),
  fun K => PySem.W.keepIn K (.ref (He.fAd K ("_law_draw", none))),
  fun K => He.eqO (PySem.W.nsIn K mainGlobals "_law_alike") (some (some (.ref (He.fAd K ("_law_alike", none))))),
  fun K => PySem.W.keepIn K (.ref (He.fAd K ("_law_alike", none))),
  fun K => He.eqO (PySem.W.nsIn K mainGlobals "_law_value") (some (some (.ref (He.fAd K ("_law_value", none))))),
  fun K => PySem.W.keepIn K (.ref (He.fAd K ("_law_value", none))),
  fun K => He.eqO (PySem.W.nsIn K mainGlobals "_law_done") (some (some (.ref (He.fAd K ("_law_done", none))))),
  fun K => PySem.W.keepIn K (.ref (He.fAd K ("_law_done", none))),
  fun K => He.eqO (PySem.W.nsIn K mainGlobals "_law_good") (some (some (.ref (He.fAd K ("_law_good", none))))),
  fun K => PySem.W.keepIn K (.ref (He.fAd K ("_law_good", none))),
  fun K => He.eqO (PySem.W.nsIn K mainGlobals "law") (some (some (.ref (He.fAd K ("law", none))))),
  fun K => PySem.W.keepIn K (.ref (He.fAd K ("law", none)))]
def hfs : List (PySem.W.Frag → Bool) := hf0 ++ hf1
def hd_World_init : He.FnD := ⟨("World", some "__init__"), "__init__", "World.__init__", defArgs s_World_init, defBody s_World_init, defScope s_World_init⟩
def hd_World_make : He.FnD := ⟨("World", some "make"), "make", "World.make", defArgs s_World_make, defBody s_World_make, defScope s_World_make⟩
def hd_World_read : He.FnD := ⟨("World", some "read"), "read", "World.read", defArgs s_World_read, defBody s_World_read, defScope s_World_read⟩
def hd_World_write : He.FnD := ⟨("World", some "write"), "write", "World.write", defArgs s_World_write, defBody s_World_write, defScope s_World_write⟩
def hd_World_many : He.FnD := ⟨("World", some "many"), "many", "World.many", defArgs s_World_many, defBody s_World_many, defScope s_World_many⟩
def hd_World_inside : He.FnD := ⟨("World", some "inside"), "inside", "World.inside", defArgs s_World_inside, defBody s_World_inside, defScope s_World_inside⟩
def hd_l_draw : He.FnD := ⟨("_law_draw", none), "_law_draw", "_law_draw", defArgs s_l_draw, defBody s_l_draw, defScope s_l_draw⟩
def hd_l_alike : He.FnD := ⟨("_law_alike", none), "_law_alike", "_law_alike", defArgs s_l_alike, defBody s_l_alike, defScope s_l_alike⟩
def hd_l_value : He.FnD := ⟨("_law_value", none), "_law_value", "_law_value", defArgs s_l_value, defBody s_l_value, defScope s_l_value⟩
def hd_l_done : He.FnD := ⟨("_law_done", none), "_law_done", "_law_done", defArgs s_l_done, defBody s_l_done, defScope s_l_done⟩
def hd_l_good : He.FnD := ⟨("_law_good", none), "_law_good", "_law_good", defArgs s_l_good, defBody s_l_good, defScope s_l_good⟩
def hd_law : He.FnD := ⟨("law", none), "law", "law", defArgs s_law, defBody s_law, defScope s_law⟩
def hn0 : List He.FnD := [hd_World_init, hd_World_make, hd_World_read, hd_World_write, hd_World_many, hd_World_inside, hd_l_draw, hd_l_alike, hd_l_value, hd_l_done, hd_l_good, hd_law]
def hfn : List He.FnD := hn0
abbrev Al : Type := Bool × List He.FnV
def obsK (K : PySem.W.Frag) : Al := ((hfs.all fun f => f K) && hfn.all fun d => (He.Fa.code d.at_ d.qual).ok K, hfn.map fun d => He.fnObs K d.at_)
def valK : Al := (true, hfn.map He.FnD.val)
def SaysK (K : PySem.W.Frag) : Prop := obsK K = valK
def obsH (g : Addr → Option Obj) : Al := obsK (He.frG g (He.asG g 5))
def hk : PySem.W.Hook where
  α := Al
  obs := fun s => obsH s.heap.get?
  val := fun _ => valK
  says := fun _ h => ∃ K : PySem.W.Frag, K.In h ∧ SaysK K
  of := fun _ _ e => ⟨_, He.frG_in, e⟩
  keeps := fun _ _ _ ⟨K, hK, c⟩ k => ⟨K, PySem.W.Frag.In.keeps hK k, c⟩
theorem obsH_eq {g : Addr → Option Obj} {s : Shared} (h : ∀ a, g a = s.heap.get? a) : obsH g = hk.obs s := by
  have e : g = s.heap.get? := funext h
  rw [e] <;> rfl
def ob (s : PySem.W.SharedT) : Al := obsH (HandSHeadRun.getT s)
theorem ob_eq (s : PySem.W.SharedT) : ob s = hk.obs s.abs := obsH_eq (HandSHeadRun.getT_eq s)
theorem allApp {α : Type} {f : α → Bool} {l m : List α} (h : (l ++ m).all f = true) : l.all f = true ∧ m.all f = true := by
  rw [List.all_append] at h
  exact Bool.and_eq_true_iff.mp h
theorem saysF {K : PySem.W.Frag} (c : SaysK K) : hfs.all (fun f => f K) = true :=
  (He.ba (show ((hfs.all fun f => f K) && hfn.all fun d => (He.Fa.code d.at_ d.qual).ok K) = true from congrArg (fun z : Al => z.1) c)).1
theorem saysD {K : PySem.W.Frag} (c : SaysK K) {d : He.FnD} (hd : d ∈ hfn) :
    ∃ oc od osl kV doc pm an cdv ct, K.lookup (He.fAd K d.at_) = some ⟨oc, od, .func (PySem.W.fnOf d.name d.qual d.params d.body d.scope .none kV doc pm an cdv ct), osl⟩ ∧ PySem.W.codeIn K cdv d.qual = true := by
  have c2 := (He.ba (show ((hfs.all fun f => f K) && hfn.all fun d => (He.Fa.code d.at_ d.qual).ok K) = true from congrArg (fun z : Al => z.1) c)).2
  have e : hfn.map (fun d => He.fnObs K d.at_) = hfn.map He.FnD.val := congrArg (fun z : Al => z.2) c
  obtain ⟨i, hi⟩ := List.mem_iff_getElem?.mp hd
  have e2 : (hfn.map fun d => He.fnObs K d.at_)[i]? = (hfn.map He.FnD.val)[i]? := by rw [e]
  rw [List.getElem?_map, List.getElem?_map, hi] at e2
  exact He.fn_ok (Option.some.inj e2) (List.all_eq_true.mp c2 d hd)
theorem hfat0 {K : PySem.W.Frag} (c : SaysK K) : hf0.all (fun f => f K) = true := by
  have z := saysF c
  unfold hfs at z
  have z := (allApp z).1
  exact z
theorem hfact0 {K : PySem.W.Frag} (c : SaysK K) (i : Nat) {f : PySem.W.Frag → Bool} (h : hf0[i]? = some f := by rfl) : f K = true := List.all_eq_true.mp (hfat0 c) f (List.mem_of_getElem? h)
theorem hfat1 {K : PySem.W.Frag} (c : SaysK K) : hf1.all (fun f => f K) = true := by
  have z := saysF c
  unfold hfs at z
  exact (allApp z).2
theorem hfact1 {K : PySem.W.Frag} (c : SaysK K) (i : Nat) {f : PySem.W.Frag → Bool} (h : hf1[i]? = some f := by rfl) : f K = true := List.all_eq_true.mp (hfat1 c) f (List.mem_of_getElem? h)
def nm0 : List PySem.Str := [(PySem.Str.ofString "World"), (PySem.Str.ofString "_law_draw"), (PySem.Str.ofString "_law_alike"), (PySem.Str.ofString "_law_value"), (PySem.Str.ofString "_law_done"), (PySem.Str.ofString "_law_good")]
def nms : List PySem.Str := nm0
abbrev R : PySem.W.OpenRow := PySem.W.OpenLaw.row PySem.Challenge.rw_holders_k51_world
abbrev qv : Program := PySem.W.view R.prog [8]
set_option maxHeartbeats 0 in
theorem run (w : World) : HandSHeadRun.RunEq R qv hk ob 20000 nms w := by
  intro os
  kernel_rfl
theorem facts {l : PySem.W.OpenLaw} {w : World} {K : PySem.W.Frag} {h : Heap} {mg : Str → Option Value} {fa : Addr} (X : K.In h) (G : h.Ns mainGlobals mg) (hfa : mg "law" = some (.ref fa)) (c : SaysK K) :
    ∃ fd : FuncData, (∀ (s : Shared) (v : Value), BindsTo s fd ⟨[v], []⟩ [("_law_script", v)]) ∧ ∀ base : Heap, K.In base → base.Ns mainGlobals mg → FnOk l.prog w K mg base CX0 12 fa fd ["_law_script"] (spLaw K) := by
  obtain ⟨_, _, _, _, _, _, _, _, _, zl_World_init, zd_World_init⟩ := saysD c (d := hd_World_init) (List.mem_of_getElem? (i := 0) (by rfl))
  obtain ⟨_, _, _, _, _, _, _, _, _, zl_World_make, zd_World_make⟩ := saysD c (d := hd_World_make) (List.mem_of_getElem? (i := 1) (by rfl))
  obtain ⟨_, _, _, _, _, _, _, _, _, zl_World_read, zd_World_read⟩ := saysD c (d := hd_World_read) (List.mem_of_getElem? (i := 2) (by rfl))
  obtain ⟨_, _, _, _, _, _, _, _, _, zl_World_write, zd_World_write⟩ := saysD c (d := hd_World_write) (List.mem_of_getElem? (i := 3) (by rfl))
  obtain ⟨_, _, _, _, _, _, _, _, _, zl_World_many, zd_World_many⟩ := saysD c (d := hd_World_many) (List.mem_of_getElem? (i := 4) (by rfl))
  obtain ⟨_, _, _, _, _, _, _, _, _, zl_World_inside, zd_World_inside⟩ := saysD c (d := hd_World_inside) (List.mem_of_getElem? (i := 5) (by rfl))
  obtain ⟨_, _, _, _, _, _, _, _, _, zl_l_draw, zd_l_draw⟩ := saysD c (d := hd_l_draw) (List.mem_of_getElem? (i := 6) (by rfl))
  obtain ⟨_, _, _, _, _, _, _, _, _, zl_l_alike, zd_l_alike⟩ := saysD c (d := hd_l_alike) (List.mem_of_getElem? (i := 7) (by rfl))
  obtain ⟨_, _, _, _, _, _, _, _, _, zl_l_value, zd_l_value⟩ := saysD c (d := hd_l_value) (List.mem_of_getElem? (i := 8) (by rfl))
  obtain ⟨_, _, _, _, _, _, _, _, _, zl_l_done, zd_l_done⟩ := saysD c (d := hd_l_done) (List.mem_of_getElem? (i := 9) (by rfl))
  obtain ⟨_, _, _, _, _, _, _, _, _, zl_l_good, zd_l_good⟩ := saysD c (d := hd_l_good) (List.mem_of_getElem? (i := 10) (by rfl))
  obtain ⟨_, _, _, _, _, _, _, _, _, zl_law, zd_law⟩ := saysD c (d := hd_law) (List.mem_of_getElem? (i := 11) (by rfl))
  exact all_mk X G hfa (He.eqO_ok (hfact0 c 0)) (He.eqO_ok (hfact0 c 1)) (He.eqO_ok (hfact0 c 2)) (He.eqO_ok (hfact0 c 3)) (He.eqO_ok (hfact0 c 4)) (He.eqO_ok (hfact0 c 5)) (He.eqO_ok (hfact0 c 6)) (He.eqO_ok (hfact0 c 7)) (He.eqO_ok (hfact0 c 8)) (He.eqO_ok (hfact0 c 9)) (He.eqO_ok (hfact0 c 10)) (hfact0 c 11) (hfact0 c 12) (hfact0 c 13) (He.eqO_ok (hfact0 c 14)) (hfact0 c 15) (hfact0 c 16) (He.eqO_ok (hfact0 c 17)) (He.eqO_ok (hfact0 c 18)) (hfact0 c 19) zl_World_init zd_World_init (hfact0 c 20) (He.eqO_ok (hfact0 c 21)) (hfact0 c 22) zl_World_make zd_World_make (hfact0 c 23) (He.eqO_ok (hfact0 c 24)) (hfact1 c 0) zl_World_read zd_World_read (hfact1 c 1) (He.eqO_ok (hfact1 c 2)) (hfact1 c 3) zl_World_write zd_World_write (hfact1 c 4) (He.eqO_ok (hfact1 c 5)) (hfact1 c 6) zl_World_many zd_World_many (hfact1 c 7) (He.eqO_ok (hfact1 c 8)) (hfact1 c 9) zl_World_inside zd_World_inside (hfact1 c 10) (He.eqO_ok (hfact1 c 11)) zl_l_draw zd_l_draw (hfact1 c 12) (He.eqO_ok (hfact1 c 13)) zl_l_alike zd_l_alike (hfact1 c 14) (He.eqO_ok (hfact1 c 15)) zl_l_value zd_l_value (hfact1 c 16) (He.eqO_ok (hfact1 c 17)) zl_l_done zd_l_done (hfact1 c 18) (He.eqO_ok (hfact1 c 19)) zl_l_good zd_l_good (hfact1 c 20) (He.eqO_ok (hfact1 c 21)) zl_law zd_law (hfact1 c 22)
end My
open PySem PySem.W PySem.Calls PyProof.Rows
set_option maxRecDepth 100000 in
set_option maxHeartbeats 0 in
theorem PySem.Challenge.cw_holders_k51_world_holds : PySem.Challenge.rw_holders_k51_world.Holds := by
  w_on; o_law
  refine HandSHeadRun.head_any (r := My.R) (q := My.qv) (H := My.hk) (ob := My.ob) (M := 20000) (loose := My.nms) (d := HandSHeadRun.topDef (OpenLaw.row PySem.Challenge.rw_holders_k51_world).prog 8) (kwd := []) My.ob_eq
    (by kernel_rfl) (fun s => by kernel_rfl) My.run (by kernel_rfl) (by kernel_rfl) (by kernel_rfl) (by rfl) (by first | assumption | decide +kernel) (by decide +kernel) ⟨rfl, rfl, rfl, rfl, rfl, by decide +kernel⟩ ?hw ?hc
  case hw => w_witness2
  case hc =>
    refine L2.walk_ofE (l := PySem.Challenge.rw_holders_k51_world) (n := 63) (k := 12) (x := "_law_script") (CX := L2.CX0) rfl (by decide) (by kernel_rfl) ⟨rfl, by decide, by decide⟩ ?F (fun _ _ _ _ z => z)
    intro w mg fa h Y G hmg0
    obtain ⟨K, KX, c⟩ := Y
    have hmg : mg ("law" : PySem.Str) = some (.ref fa) := by
      have e : (HandSHeadRun.topDef (OpenLaw.row PySem.Challenge.rw_holders_k51_world).prog 8).name = ("law" : PySem.Str) := by kernel_rfl
      rw [← e]
      exact hmg0
    obtain ⟨fd, hb, hF⟩ := My.facts (l := PySem.Challenge.rw_holders_k51_world) (w := w) KX G hmg c
    exact ⟨K, fd, My.spLaw K, KX, hb, fun H a ns hl _ hS => ⟨a, ns, rfl, hS, hl, fun _ => rfl⟩, hF⟩

