import PyProof.Rows.All
import Wide.All
import OpenK.AllK
import Wide.FinOn
import KE.KStateDown
import HandS.Head0
import HandS.Head1
import HandS.Head2
import HandS.HeadEnd
import HandS.HeadHook1
import HandS.ForMost
import HandS.More
import HandS.IsInst
import HandS.Strs
import HandS.Wide
import HandS.Zip
import HandS.TupAny
import HandS.Exc
import HandS.TryOnly
import HandS.ExcOwn
import HandS.WordsExc
import HandS.ExcIs
import HandS.ExcInit
import HandS.ExcField
import HandS.ExcSuper
import HandS.RaiseMore
import HandS.MapJoin
import HandS.Flow
import HandS.Conv
import HandS.SortInts
import HandS.NoneIn
import HandS.Style
import KE.GoesMore
import HandS.SetFor
import PySem.Challenge.RW_holders_k52_numbers
set_option linter.all false
set_option Elab.async false
set_option maxRecDepth 100000
set_option maxHeartbeats 4000000
namespace My
open PySem L2
set_option linter.all false
/-! ### isinstance among the program's own classes: the facts as one -/
def isiB (K : PySem.W.Frag) (cs : List Addr) (r : Addr) : Bool :=
  decide (PySem.W.specialIn K (.builtin "object.__class__") "__get__" = some (some (.builtin "getset_descriptor.__get__"))) && (decide (PySem.W.takesIn K (.builtin "object.__class__") = some true) &&
    cs.zipIdx.all fun c => decide (PySem.W.findIn K (.ref c.1) "__class__" = some (some (.builtin "object.__class__"))) && (decide (PySem.W.mroIn K c.1 (.type "object") = some true) &&
      (decide (PySem.W.kitOne K (.ref c.1) (.ref r) = some true) && cs.zipIdx.all fun d => decide (PySem.W.kitOne K (.ref c.1) (.ref d.1) = some (c.2 == d.2)))))
structure IsiAt (K : PySem.W.Frag) (cs : List Addr) (r : Addr) (i : Nat) (c : Addr) : Prop where
  hn : PySem.W.specialIn K (.builtin "object.__class__") "__get__" = some (some (.builtin "getset_descriptor.__get__"))
  htk : PySem.W.takesIn K (.builtin "object.__class__") = some true
  ha : PySem.W.findIn K (.ref c) "__class__" = some (some (.builtin "object.__class__"))
  hm : PySem.W.mroIn K c (.type "object") = some true
  hr : PySem.W.kitOne K (.ref c) (.ref r) = some true
  hk : ∀ (j : Nat) (d : Addr), cs[j]? = some d → PySem.W.kitOne K (.ref c) (.ref d) = some (i == j)
theorem isi_at {K : PySem.W.Frag} {cs : List Addr} {r : Addr} (h : isiB K cs r = true) (i : Nat) {c : Addr} (hc : cs[i]? = some c) : IsiAt K cs r i c := by
  unfold isiB at h
  simp only [Bool.and_eq_true, decide_eq_true_eq, List.all_eq_true] at h
  obtain ⟨h1, h2, h3⟩ := h
  have m : ∀ (j : Nat) (d : Addr), cs[j]? = some d → (d, j) ∈ cs.zipIdx := fun j d hd => by
    rw [List.mem_zipIdx_iff_getElem?]
    exact hd
  obtain ⟨h4, h5, h6, h7⟩ := h3 _ (m i c hc)
  exact ⟨h1, h2, h4, h5, h6, fun j d hd => h7 _ (m j d hd)⟩
/-! ### an own exception class right over Exception, whose __init__ sets a field -/
section
open PySem.Spec PyProof.Rows
structure OexX (K : PySem.W.Frag) (C : Addr) : Prop where
  cls : ∃ nm q N bs sn sub ab col dd k0 k1 k2 k3 k5, K.lookup C = some (excClassObj nm q C N bs PySem.ESX.exTail true sn sub ab col dd k0 k1 k2 k3 k5 "Exception.__new__")
  sa : PySem.W.findIn K (.ref C) "__setattr__" = some (some (.builtin "object.__setattr__"))
  exC : PySem.W.subIn K (.ref C) (.type "BaseException") = some true
  tyC : PySem.W.typeIn K (.ref C) = some (.type "type")
  kC : PySem.W.keepIn K (.ref C) = true
def oexXB (K : PySem.W.Frag) (C : Addr) : Bool := match K.lookup C with
  | some ⟨.type "type", _, .cls cd, sl⟩ => (match sl.toList with
    | [_, _, _, _, some (.builtin n), _] => n == "Exception.__new__" && (!cd.hasDel && (cd.hasDict && cd.mro == .ref C :: PySem.ESX.exTail))
    | _ => false)
  | _ => false
theorem oexXB_ok {K : PySem.W.Frag} {C : Addr} (h : oexXB K C = true) : ∃ nm q N bs sn sub ab col dd k0 k1 k2 k3 k5, K.lookup C = some (excClassObj nm q C N bs PySem.ESX.exTail true sn sub ab col dd k0 k1 k2 k3 k5 "Exception.__new__") := by
  unfold oexXB at h
  split at h
  · rename_i dd cd sl ho
    split at h
    · rename_i k0 k1 k2 k3 n k5 hs
      simp only [Bool.and_eq_true, beq_iff_eq, Bool.not_eq_true'] at h
      obtain ⟨rfl, hdel, hdict, hmro⟩ := h
      obtain ⟨nm, bs, mro, ns, qn, hd, sn, sub, ab, col, del⟩ := cd
      dsimp only at hdel hdict hmro
      subst hdel hdict hmro
      have hsl : sl = #[k0, k1, k2, k3, some (.builtin "Exception.__new__"), k5] := by
        obtain ⟨l⟩ := sl
        simp only at hs
        rw [hs]
      subst hsl
      exact ⟨nm, qn, ns, bs, sn, sub, ab, col, dd, k0, k1, k2, k3, k5, ho⟩
    · cases h
  · cases h
theorem exTail_has (Y : String) : (PySem.ESX.exTail : List Value).contains (.type Y) = ([.type "Exception", .type "BaseException", .type "object"] : List Value).contains (.type Y) := rfl
section
variable {X : Cx} {pins : List (Addr × Obj)} {σ : L2.St} {H : Hp} {s : Shared} {a C dx : Addr} {f : Str} {y : V} {u : Value} {A : Around}
/-- self.f = y, the first field -/
theorem ostX {Q : Unit → Shared → Prop} {E : Value → Shared → Prop} (T : OexX X.K C) (I : Inv X pins σ H s) (e : H a = some (exo a C none)) (hno : PySem.W.findIn X.K (.ref C) f = some none) (ry : RelV y u)
    (h : ∀ dx s', H dx = none → dx ≠ a → Inv X pins σ (upd (upd H dx (exd dx [(f, y)])) a (exo a C (some dx))) s' → Q () s') : wpAny (model X.prog X.w) A (setAttr (.ref a) f u) Q E s := by
  obtain ⟨nm, q, N, bs, sn, sub, ab, col, dd, k0, k1, k2, k3, k5, hC⟩ := T.cls
  have hcl : PySem.W.clsIn X.K C = some { name := nm, bases := bs, mro := .ref C :: PySem.ESX.exTail, ns := N, qualname := q, hasDict := true, slotNames := sn, subclasses := sub, abstract := ab, collection := col, hasDel := false } := by unfold PySem.W.clsIn; rw [hC] <;> rfl
  obtain ⟨t1, ho⟩ := exo_at I.hok e
  obtain ⟨hp, g, d, t, os⟩ := s
  refine PySem.W.set_plain I.kIn (ox := { cls := .ref C, dict := none, data := .fields #[.ref t1, .none, .none, .none, .bool false, .none] }) (od := none) ⟨ho, rfl, rfl, trivial⟩ T.sa ?_
  refine PySem.ESX.osa_new I.kIn ho hcl rfl rfl hno (fun h' tk' dx k dn dne hx hn => ?_)
  have hnd : H dx = none := I.hok.fresh dn
  have nd : ∀ {b : Addr} {o : Obj}, hp.get? b = some o → b ≠ dx := fun {b o} q => Nat.ne_of_lt (Nat.lt_of_lt_of_le (Heap.lt_size q) dn)
  have na : ∀ {b : Addr}, H b = none → b ≠ a := fun {b} n z => by
    rw [z, e] at n
    cases n
  have U : Un X.fs [] H (upd (upd H dx (exd dx [(f, y)])) a (exo a C (some dx))) hp h' := {
    keep := fun b o q n _ _ => k b o (na n) q
    slot := fun b o q n _ _ => ⟨o.slots, k b o (na n) q⟩
    free := fun b o q n _ => by rw [upd_ne (na n), upd_ne (nd q)]; exact n
    there := fun b o q _ => by
      by_cases hb : b = a
      · exact ⟨_, by rw [hb]; exact hx⟩
      · exact ⟨o, k b o hb q⟩
    tups := fun b xs q => by rw [upd_ne (at_ne e q exo_tup), upd_ne (ne_of_none q hnd)]; exact q
    frzs := fun b o v q => by rw [upd_ne (at_ne e q exo_frz), upd_ne (ne_of_none q hnd)]; exact q
    tbls := fun b ps q => ⟨#[], by rw [upd_ne (at_ne e q exo_tbl), upd_ne (ne_of_none q hnd), q]; simp⟩ }
  refine h dx _ hnd dne (I.un (t' := tk') U fun b o q => ?_)
  by_cases hb : b = a
  · subst hb
    rw [upd_same] at q
    cases q
    exact exo_ok hx
  · rw [upd_ne hb] at q
    by_cases hd : b = dx
    · subst hd
      rw [upd_same] at q
      cases q
      exact exd_ok hn (relO_put (fs := []) ry fun g => True.intro)
    · rw [upd_ne hd] at q
      exact (I.hok b o q).stay (fun c v hc z => k c v (by
          rcases hc with hc | hc
          · rw [hc]
            exact hb
          · exact at_ne e hc exo_own) z)
        (fun c hc => by rw [upd_ne (at_ne e hc exo_own), upd_ne (ne_of_none hc hnd)]; exact hc) (fun c xs hc => by rw [upd_ne (at_ne e hc exo_tup), upd_ne (ne_of_none hc hnd)]; exact hc)
/-- Exception.__init__(self, ..) -/
theorem oinitX {us : List Value} {Q : Value → Shared → Prop} {E : Value → Shared → Prop} (T : OexX X.K C) (I : Inv X pins σ H s) (e : H a = some (exo a C none)) (hl : us.length ≤ sizeLine) (h : ∀ s', Inv X pins σ H s' → Q .none s') :
    wpAny (model X.prog X.w) A (call (.builtin "Exception.__init__") (.ref a :: us)) Q E s := by
  obtain ⟨nm, q, N, bs, sn, sub, ab, col, dd, k0, k1, k2, k3, k5, hC⟩ := T.cls
  obtain ⟨t1, ho⟩ := exo_at I.hok e
  obtain ⟨hp, g, d, t, os⟩ := s
  refine wpAny_call (PySem.HandSPX.init_base F.excBase_Exception exTail_has (I.kIn _ _ hC) ho hl fun h' t2 k hx => ?_)
  have J := I.write (t' := t) (x := a) (e := a) (o := exo a C none) (by rw [e]; exact True.intro) (.inl rfl) k ⟨_, hx⟩ (exo_ok hx)
  have eu : upd H a (exo a C none) = H := by
    funext b
    by_cases hb : b = a
    · rw [hb, upd_same, e]
    · rw [upd_ne hb]
  rw [eu] at J
  exact h _ J
end
def tXi (K : PySem.W.Frag) (ta : TA) : TE := fun σ H Q => ta σ H fun vs H1 => ∃ (a C : Addr) (ws : List V), vs = .ref a :: ws ∧ ws.length ≤ 1000 ∧ OexX K C ∧ H1 a = some (exo a C none) ∧ Q .non H1
def tOstX (K : PySem.W.Frag) (f : Str) (to te : TE) : TS := fun D σ H => te σ H fun y H1 => to σ H1 fun x H2 => ∃ a C : Addr, x = .ref a ∧ OexX K C ∧ PySem.W.findIn K (.ref C) f = some none ∧
  H2 a = some (exo a C none) ∧ ∀ dx, H2 dx = none → dx ≠ a → D.nx σ (upd (upd H2 dx (exd dx [(f, y)])) a (exo a C (some dx)))
section
variable {X : Cx} {o e : Expr} {es : List Expr} {to te : TE} {ta : TA} {f : Str} {p p' p1 p2 pos : Pos}
theorem vXi (K : PySem.W.Frag) : PySem.W.findCls K (.type "Exception") (.type "type") "__init__" = some (.val (.builtin "Exception.__init__")) := by first | rfl | kernel_rfl
theorem typ_Exc : typeOf (.type "Exception") = pure (.type "type") := by kernel_rfl
theorem pe_xinit {pl : Sem Bool} (hg : Gl X "Exception") (hm : X.mg "Exception" = none) (vV : PySem.W.findCls X.K (.type "Exception") (.type "type") "__init__" = some (.val (.builtin "Exception.__init__"))) (ha : PA X (e :: es) ta)
    (hc : eval (.Call (.Attribute (.Name "Exception" p1) "__init__" p2) (e :: es) [] pos) X.env = (do
      let ov ← eval (.Name "Exception" p1) X.env
      standAt p2.atName
      let (f, first) ← holding [ov] (getMethod ov "__init__" pl)
      callWith pos f first (backTo pos (starEach (e :: es) X.env)) (backToKw pos (keywordEach [] X.env))) := by rfl)
    (he : starEach (e :: es) X.env = (false, eval e X.env) :: starEach es X.env := by rfl) (hpl : (backTo pos (starEach es X.env)).any (·.1) = false := by rfl) :
    PE X (.Call (.Attribute (.Name "Exception" p1) "__init__" p2) (e :: es) [] pos) (tXi X.K ta) := by
  refine ⟨fun pins s σ H Q I h => ?_⟩
  refine PySem.W.methodCall_KW (ld_blt I hg hm (u := .type "Exception") (by first | rfl | decide +kernel) ?_ (by decide) (by decide)) hc
  obtain ⟨m, fr⟩ := I.fr
  refine PySem.W.method_type fr I.ok.mod.kin typ_Exc (by decide +kernel) vV (by decide +kernel) ?_
  show wpAny _ _ (callWith pos (Value.builtin "Exception.__init__") [] (backTo pos (starEach (e :: es) X.env)) []) _ _ _
  refine PyProof.Rows.callWith_method1 (thn (ha.run pos pins _ σ H _ (I.tok _) h) fun us s1 ⟨vs, H1, I1, r1, a, C, ws, ev, hl, T, ea, q⟩ => ?_) he hpl
  subst ev
  cases r1 with
  | @cons _ u0 _ ur ra rw' =>
    obtain rfl : u0 = Value.ref a := ra
    have hlen : ur.length ≤ sizeLine := by
      rw [← Paired.length rw', sizeLine_eq]
      omega
    exact oinitX T I1 ea hlen fun s' J => ⟨.non, H1, J, rfl, q⟩
theorem ps_ostX (ho : PE X o to) (he : PE X e te) (hs : swapsWith e (some (.Attribute o f p')) pos.line X.env = pure false := by rfl) : PS X (.Assign [.Attribute o f p'] e pos) (tOstX X.K f to te) := by
  refine ⟨fun pins s σ H D I h => ?_⟩
  refine plainObj_wpAny_Assign_Attribute (thn (he.run pins s σ H _ I h) fun v s1 ⟨y, H1, I1, r1, q1⟩ => thn (ho.run pins s1 σ H1 _ I1 q1) fun u s2 ⟨x, H2, I2, r2, a, C, ex, T, hno, ea, q⟩ => ?_) hs
  subst ex
  obtain rfl : u = Value.ref a := r2
  exact ostX T I2 ea hno r1 fun dx s' n ne J => ⟨σ, _, J, q dx n ne⟩
theorem pmk_X {CX : CXT} {x : Str} {C fI : Addr} {k : Nat} {fd : FuncData} {ps : List Str} {sp : Sp} (T : OexX X.K C) (iC : PySem.W.findIn X.K (.ref C) "__init__" = some (some (.ref fI))) (tI : PySem.W.typeIn X.K (.ref fI) = some (.type "function"))
    (F1 : FnOk X.prog X.w X.K X.mg X.base CX k fI fd ps sp) (hr : Room (k + 1) X.A) (hb : Binds X.K fd ps []) (hx : Passes CX X (fun _ _ _ => False)) (hg : Gl X x) (hm : X.mg x = some (.ref C)) (ha : PA X (e :: es) ta)
    (hdb : (x == ("__debug__" : Str)) = false := by decide) (he : starEach (e :: es) X.env = (false, eval e X.env) :: starEach es X.env := by rfl) (hpl : (backTo pos (starEach es X.env)).any (·.1) = false := by rfl) :
    PMk X (.Call (.Name x p) (e :: es) [] pos) (tMkO C sp [] ta) := by
  intro pins s σ H Q I h
  obtain ⟨nm, q, N, bs, sn, sub, ab, col, dd, k0, k1, k2, k3, k5, hC⟩ := T.cls
  refine wpAny_Call_Name_kw (ld_glob I hg hm ?_ hdb)
  refine PySem.W.callWith_K (h₀ := X.base) I.ok.mod.kin T.kC (thn (ha.run pos pins s σ H _ I h) fun us s1 ⟨vs, H1, I1, r1, hz, q1⟩ => ⟨I1.kIn, ?_⟩) he hpl
  show wpAny _ _ (call (.ref C) us) _ _ _
  obtain ⟨hp, g, dr, tk, os⟩ := s1
  have hsz : hp.objs.size ≤ hp.objs.size + 1 := Nat.le_succ _
  have hn : H1 (hp.objs.size + 1) = none := I1.hok.fresh hsz
  have hq := q1 (hp.objs.size + 1) hn
  rw [List.append_nil] at hq
  have kk : ∀ b o, hp.get? b = some o → ((hp.push (PySem.W.kdv_tup us)).push (PySem.HandSPX.excO C hp.objs.size)).get? b = some o := fun b o e => Heap.get?_push_of_some _ (Heap.get?_push_of_some _ e)
  have hget : ((hp.push (PySem.W.kdv_tup us)).push (PySem.HandSPX.excO C hp.objs.size)).get? (hp.objs.size + 1) = some (PySem.HandSPX.excO C hp.objs.size) := by heap_get
  have I2 : Inv X pins σ (upd H1 (hp.objs.size + 1) (exo (hp.objs.size + 1) C none)) ⟨(hp.push (PySem.W.kdv_tup us)).push (PySem.HandSPX.excO C hp.objs.size), g, dr, tk, os⟩ :=
    I1.laid (t' := tk) (a := hp.objs.size + 1) (o := exo (hp.objs.size + 1) C none) (h' := (hp.push (PySem.W.kdv_tup us)).push (PySem.HandSPX.excO C hp.objs.size)) kk hsz (exo_ok hget)
  have r2 : Vals (V.ref (hp.objs.size + 1) :: vs) (Value.ref (hp.objs.size + 1) :: us) := .cons rfl r1
  have hl : (Value.ref (hp.objs.size + 1) :: us ++ []).length = ps.length := by
    have e := r2.length
    rw [F1.len _ _ _ _ hq] at e
    rw [List.append_nil]
    exact e.symm
  have hus : us.length ≤ sizeLine := by
    rw [← Paired.length r1, sizeLine_eq]
    omega
  have hbn := hb ⟨(hp.push (PySem.W.kdv_tup us)).push (PySem.HandSPX.excO C hp.objs.size), g, dr, tk, os⟩ (Value.ref (hp.objs.size + 1) :: us) I2.kIn hl
  rw [List.append_nil] at hbn
  refine wpAny_call (PySem.HandSPX.call_own F.excBase_Exception exTail_has (I1.kIn _ _ hC) (PySem.W.looks_findIn I1.kIn iC) (fun self => PySem.W.bind_fn I1.kIn self tI) hus
    (codeAny_mono (F1.run _ X.stack _ _ ⟨Value.ref (hp.objs.size + 1) :: us, []⟩ (Value.ref (hp.objs.size + 1) :: us) _ _ (fun _ _ _ => False) (hr.make C us []) (I2.env0.make C us []) hbn r2 hq) fun r s' hq' => ?_))
  cases r with
  | error er => exact hx pins σ _ _ er s' I2 hq'
  | ok fl =>
    cases fl with
    | ret u =>
      obtain ⟨v, H2, os2, bare2, un2, hok2, rv, ev, d, fs, ea, ed, hd1, q2⟩ := hq'
      subst ev
      obtain ⟨h2, g2, d2, t2, os'⟩ := s'
      exact ⟨rv, mk_end (raises_own T.exC T.tyC) I1 hsz kk un2 hok2 os2 bare2 ea ed hd1 q2⟩
    | next => exact False.elim hq'
    | brk => exact False.elim hq'
    | cont => exact False.elim hq'
end
theorem pe_never {X : Cx} {e : Expr} : PE X e (fun _ _ _ => False) := ⟨fun _ _ _ _ _ _ h => h.elim⟩
/-! ### a text times a small number -/
def repS (x : Str) (n : Nat) : Str := if n = 1 then x else ⟨(List.replicate n x.cps).foldl (· ++ ·) #[]⟩
theorem op_mulS {X : Cx} : OpR X (binaryOp .Mult) (fun x y H Q => ∃ (s : Str) (n : Nat), x = .str s ∧ y = .int (n : Int) ∧ 1 ≤ n ∧ n ≤ 100 ∧ 1 ≤ s.length ∧ s.length ≤ 100 ∧ (repS s n).length ≤ sizeLine ∧ Q (.str (repS s n)) H) := by
  intro pins s σ H x y v u Q I rx ry h
  obtain ⟨z, n, rfl, rfl, h1, h2, h3, h4, h5, q⟩ := h
  obtain ⟨t, rfl⟩ := rx
  obtain ⟨t', rfl⟩ := ry
  have hz := sizeLine_eq
  have hd : ∀ k : Nat, k ≤ 10000 → Builtin.Str.tooLong k = false := fun k hk => by
    unfold Builtin.Str.tooLong
    simp only [decide_eq_false_iff_not]
    omega
  refine PySem.P.mul_str (by simp; omega) (fun _ _ => ?_) (fun _ _ => hd _ ?_) ?_
  · have : ((z.length : Nat) : Int) ≤ 100 := by omega
    have hq : (100 : Int) ≤ (2 ^ 63 - 1) / (n : Int) := by
      rw [Int.le_ediv_iff_mul_le (by omega)]
      omega
    omega
  · have : ((n : Int)).toNat = n := Int.toNat_natCast n
    rw [this]
    exact Nat.le_trans (Nat.mul_le_mul h4 h2) (by decide)
  · rw [if_neg (by omega)]
    unfold repS at q h5
    by_cases e : n = 1
    · subst e
      rw [if_pos (by rfl)]
      rw [if_pos rfl] at q
      exact ⟨.str z, H, I, ⟨t, rfl⟩, q⟩
    · rw [if_neg (by simp; omega)]
      rw [if_neg e] at q h5
      exact ⟨h5, .str _, H, I.tok _, ⟨_, rfl⟩, by rw [Int.toNat_natCast]; exact q⟩
end
theorem cmR {i j : Int} (h0 : -1000000000000 < j) (h1 : j < 1000000000000) : CMul i j := by
  have e : (2 : Int) ^ 64 = 18446744073709551616 := by decide
  exact .inr ⟨by rw [e]; omega, by rw [e]; omega⟩
theorem cmL {i j : Int} (h0 : -1000000000000 < i) (h1 : i < 1000000000000) : CMul i j := by
  have e : (2 : Int) ^ 64 = 18446744073709551616 := by decide
  exact .inl ⟨by rw [e]; omega, by rw [e]; omega⟩
theorem dvW {i j : Int} (h0 : 0 < j) (h1 : j < 1000000000000) : CDivW i j := wide_div h0 (b := 40) (by
  have e : (2 : Nat) ^ 40 = 1099511627776 := by decide
  rw [e]
  omega) (by decide) (by decide)
theorem ints_at {ns : List Int} {k : Nat} {z : Int} (h : ns[k]? = some z) : atI (ns.map V.int) (k : Int) = some (.int z) := atI_nat (by rw [List.getElem?_map, h]; rfl)
/-! ### data that is compared -/
theorem dpInts {K : PySem.W.Frag} {H : Hp} : ∀ ns : List Int, DpAll K H (ns.map V.int) (ns.map PyData.int)
  | [] => .nil
  | n :: ns => .cons (.int n) (dpInts ns)
theorem dpIntL {K : PySem.W.Frag} {H : Hp} {a : Addr} {ns : List Int} (h : SqL K H a (ns.map V.int)) : Dp K H (.ref a) (.list (ns.map PyData.int)) := .lst h (dpInts ns)
theorem layInts : ∀ ns : List Int, PyData.canLayAll0 (ns.map PyData.int) = true
  | [] => by simp [PyData.canLayAll0]
  | n :: ns => by simp [PyData.canLayAll0, PyData.canLay0, layInts ns]
theorem deepInts : ∀ ns : List Int, PyData.depthAll (ns.map PyData.int) ≤ 1
  | [] => by simp [PyData.depthAll]
  | n :: ns => by
    have := deepInts ns
    simp only [List.map_cons, PyData.depthAll, PyData.depth]
    omega
theorem shapedOf {d : PyData} (h : d.canLay0 = true) (h2 : d.depth ≤ 64) : SeqAt.shaped d = true := by
  unfold SeqAt.shaped
  rw [h, decide_eq_true h2] <;> rfl
theorem shInts (ns : List Int) : SeqAt.shaped (.list (ns.map PyData.int)) = true := shapedOf (by simp only [PyData.canLay0]; exact layInts ns) (by
  have := deepInts ns
  simp only [PyData.depth]
  omega)
theorem eqvAllInts : ∀ ns ms : List Int, PyData.eqvAll (ns.map PyData.int) (ms.map PyData.int) = decide (ns = ms)
  | [], [] => by simp [PyData.eqvAll]
  | [], m :: ms => by simp [PyData.eqvAll]
  | n :: ns, [] => by simp [PyData.eqvAll]
  | n :: ns, m :: ms => by
    have e := eqvAllInts ns ms
    simp only [List.map_cons, PyData.eqvAll, PyData.eqv, e]
    by_cases h : n = m <;> by_cases h2 : ns = ms <;> simp [h, h2]
theorem eqvInts (ns ms : List Int) : PyData.eqv (.list (ns.map PyData.int)) (.list (ms.map PyData.int)) = decide (ns = ms) := by
  rw [PyData.eqv]
  exact eqvAllInts ns ms
/-! ### tests whose outcome is known, heaps that stay -/
theorem iteDF {c A B : Prop} [Decidable c] (hc : ¬ c) (h : B) : if decide c = true then A else B := by
  rw [decide_eq_false hc]
  exact iteF h
theorem iteDT {c A B : Prop} [Decidable c] (hc : c) (h : A) : if decide c = true then A else B := by
  rw [decide_eq_true hc]
  exact iteT h
theorem iteBF {b : Bool} {A B : Prop} (hb : b = false) (h : B) : if b = true then A else B := by
  subst hb
  exact iteF h
theorem iteBT {b : Bool} {A B : Prop} (hb : b = true) (h : A) : if b = true then A else B := by
  subst hb
  exact iteT h
theorem same_upd {H : Hp} {a : Addr} {o : HO} (h : H a = none) : Same H (upd H a o) := fun b u e => by
  rw [upd_ne (ne_of_none e h)]
  exact e
theorem same_updT {H H' : Hp} {a : Addr} {o : HO} (s : Same H H') (h : H a = none) : Same H (upd H' a o) := fun b u e => by
  rw [upd_ne (ne_of_none e h)]
  exact s b u e
theorem sameT {K : PySem.W.Frag} {H H' : Hp} {a : Addr} {xs : List V} (e : Same H H') (h : SqT K H a xs) : SqT K H' a xs := by
  rcases h with (h | ⟨o, h⟩) | h
  · exact .inl (.inl (e _ _ h))
  · exact .inl (.inr ⟨o, e _ _ h⟩)
  · exact .inr h
theorem cut_hi (xs : List V) (n : Nat) : cutV xs none (some (n : Int)) = xs.take n := by
  unfold cutV
  rw [HT.sIx_none, HT.sIx_nat, List.drop_zero, Nat.sub_zero, ← List.take_eq_take_min]
theorem cut_lo (xs : List V) (n : Nat) : cutV xs (some (n : Int)) none = xs.drop n := by
  unfold cutV
  rw [HT.sIx_none, HT.sIx_nat]
  by_cases h : n ≤ xs.length
  · rw [Nat.min_eq_left h, ← List.length_drop, List.take_length]
  · rw [Nat.min_eq_right (by omega), List.drop_eq_nil_of_le (by omega : xs.length ≤ xs.length), List.drop_eq_nil_of_le (by omega : xs.length ≤ n)]
    simp
theorem inInts (z : Int) (l : List Int) : inV (.int z) (l.map V.int) = decide (z ∈ l) := by
  unfold inV
  rw [List.any_map, Bool.eq_iff_iff]
  simp only [List.any_eq_true, Function.comp, eqV, beq_iff_eq, decide_eq_true_eq]
  exact ⟨fun ⟨x, h, e⟩ => e ▸ h, fun h => ⟨z, h, rfl⟩⟩
theorem flatInts (l : List Int) : (l.map V.int).all flatV = true := by
  rw [List.all_map, List.all_eq_true]
  intro _ _
  rfl
/-! ### rules that speak of the written part, with it by name (within comprehensions) -/
section
variable {X : Cx} {K : PySem.W.Frag}
theorem len_seqK (h : X.K = K) : CallR X (.builtin "len") (fun xs H Q => ∃ p ys, xs = [.ref p] ∧ (SqL K H p ys ∨ SqT K H p ys) ∧ Q (.int ys.length) H) := by
  subst h
  exact call_len_seq
theorem list_ofK (h : X.K = K) : CallR X (.type "list") (fun xs H Q => ∃ p ys, xs = [.ref p] ∧ (SqL K H p ys ∨ SqT K H p ys) ∧ ∀ l, H l = none → Q (.ref l) (upd H l (.lst ys))) := by
  subst h
  exact call_list_of
theorem tuple_ofK (h : X.K = K) : CallR X (.type "tuple") (fun xs H Q => ∃ p ys, xs = [.ref p] ∧ ((SqL K H p ys ∧ ∀ l, H l = none → Q (.ref l) (upd H l (.tup ys))) ∨ (SqT K H p ys ∧ Q (.ref p) H))) := by
  subst h
  exact call_tuple_of
theorem in_seqK (h : X.K = K) : OpR X (compareOp .In) (rIn K false) := by
  subst h
  exact op_in_seq
theorem notIn_seqK (h : X.K = K) : OpR X (compareOp .NotIn) (rIn K true) := by
  subst h
  exact op_notIn_seq
theorem eqDK (h : X.K = K) (hu : X.A.units + 64 < cLine) : OpR X (compareOp .Eq) (rEqD K) := by
  subst h
  exact op_eqD hu
theorem neDK (h : X.K = K) (hu : X.A.units + 64 < cLine) : OpR X (compareOp .NotEq) (rNeD K) := by
  subst h
  exact op_neD hu
theorem ix_listK (h : X.K = K) : IxR X (rIxL K) := by
  subst h
  exact ix_list
theorem ix_tupK (h : X.K = K) : IxR X (rIxT K) := by
  subst h
  exact ix_tup
end
section
variable {X : Cx} {K : PySem.W.Frag} {o e : Expr} {f : Str} {pos : Pos} {ta : TE} {tg : Expr}
theorem fldK (h : X.K = K) (he : PE X e ta) (hb : attributeBase e f X.env (eval e X.env) = eval e X.env) : PE X (.Attribute e f pos) (tFld K ta f) := by
  subst h
  exact pe_fld he hb
theorem sl_listK (h : X.K = K) : SlR X (rSlL K) := by
  subst h
  exact sl_list
theorem sl_tupAK (h : X.K = K) : SlR X (rSlA K) := by
  subst h
  exact sl_tupA
theorem catAK (h : X.K = K) : OpR X (binaryOp .Add) (rCatA K) := by
  subst h
  exact op_catA
theorem isiK (h : X.K = K) : CallR X (.builtin "isinstance") (rIsi K) := by
  subst h
  exact call_isi
theorem pi_tupK (h : X.K = K) (he : PE X e ta) : PI X tg e (iTup K ta) := by
  subst h
  exact pi_tup he
theorem pi_listK (h : X.K = K) (he : PE X e ta) : PI X tg e (iList K ta) := by
  subst h
  exact pi_list he
/-- one of two readings -/
def tAlt (t u : TE) : TE := fun σ H Q => t σ H Q ∨ u σ H Q
theorem peAlt {t u : TE} (h1 : PE X e t) (h2 : PE X e u) : PE X e (tAlt t u) :=
  ⟨fun pins s σ H Q I h => h.elim (h1.run pins s σ H Q I) (h2.run pins s σ H Q I)⟩
end
theorem putF_len {f : Str} {v : V} : ∀ fs : List (Str × V), (putF f v fs).length ≤ fs.length + 1
  | [] => Nat.le_refl _
  | (g, x) :: r => by
    show (if g = f then (g, v) :: r else (g, x) :: putF f v r).length ≤ _
    split
    · simp
    · have := putF_len (f := f) (v := v) r
      simp only [List.length_cons]
      omega
theorem same_made {H : Hp} {x dx C : Addr} {fs : List (Str × V)} (nx : H x = none) (nd : H dx = none) : Same H (upd (upd H dx (.own x)) x (.ins C dx fs)) := fun b o e => by
  rw [upd_ne (ne_of_none e nx), upd_ne (ne_of_none e nd)]
  exact e
/-- what stands, but one object -/
def SameBut (p : Addr) (H H' : Hp) : Prop := ∀ b o, H b = some o → b ≠ p → H' b = some o
theorem SameBut.made {H H2 : Hp} {x dx C : Addr} {fs : List (Str × V)} (s : SameBut x (upd (upd H dx (.own x)) x (.ins C dx fs)) H2) (nx : H x = none) (nd : H dx = none) : Same H H2 := fun b o e =>
  s b o (same_made nx nd b o e) (ne_of_none e nx)
local macro_rules | `(tactic| walk_at "flook") => `(tactic| (repeat (first | rw [lookup_putF, if_pos rfl] | rw [lookup_putF, if_neg (by decide +kernel)])))
theorem yes {σ : St} {H : Hp} {Q : Bool → Hp → Prop} (h : Q true H) : tYes σ H Q := h
theorem noPart {σ : St} {H : Hp} {Q : Option Int → Hp → Prop} (h : Q none H) : tNoPart σ H Q := h
/-! ### what stays -/
theorem fresh {H H' : Hp} {p : Addr} {o : HO} (hp : H p = none) (e : upd H p o = H') : Same H H' ∧ H' p = some o := by
  subst e
  exact ⟨same_upd hp, upd_same⟩
def still : HO → Prop
  | .tup _ => True
  | .ins _ _ _ => True
  | _ => False
/-- tuples and instances stay -/
def Keep (H H' : Hp) : Prop := ∀ b o, H b = some o → still o → H' b = some o
theorem Keep.of {H H' : Hp} (s : Same H H') : Keep H H' := fun b o e _ => s b o e
theorem Keep.but {H H' : Hp} {f : Addr} {kvs : List (Key × V)} (s : SameBut f H H') (hf : H f = some (.dK kvs)) : Keep H H' := fun b o e st => s b o e (by
  intro q
  subst q
  rw [hf] at e
  cases e
  exact st)
theorem Keep.butL {H H' : Hp} {f : Addr} {xs : List V} (s : SameBut f H H') (hf : H f = some (.lst xs)) : Keep H H' := fun b o e st => s b o e (by
  intro q
  subst q
  rw [hf] at e
  cases e
  exact st)
theorem Keep.trans {H H1 H2 : Hp} (a : Keep H H1) (b : Keep H1 H2) : Keep H H2 := fun p o e st => b p o (a p o e st) st
/-! ### readings, step by step: a word for each reading, and the tactic that applies them -/
/-- a new object -/
structure New (p : Addr) (o : HO) (H H' : Hp) : Prop where
  free : H p = none
  at_ : H' p = some o
  same : Same H H'
/-- one object changed -/
structure Chg (p : Addr) (o o' : HO) (H H' : Hp) : Prop where
  was : H p = some o
  at_ : H' p = some o'
  but : SameBut p H H'
def kd : HO → Nat
  | .lst _ => 0
  | .tup _ => 1
  | .dK _ => 2
  | .dT _ => 3
  | .ins _ _ _ => 4
  | _ => 9
section
variable {H H' H'' : Hp} {p q : Addr} {o u a b : HO}
theorem New.mk' (h : H p = none) : New p o H (upd H p o) := ⟨h, upd_same, same_upd h⟩
theorem Chg.mk' (h : H p = some o) : Chg p o u H (upd H p u) := ⟨h, upd_same, fun b x e n => by rw [upd_ne n]; exact e⟩
theorem New.get (n : New q u H H') (h : H p = some o) : H' p = some o := n.same _ _ h
theorem sameGet (n : Same H H') (h : H p = some o) : H' p = some o := n _ _ h
theorem Chg.get (c : Chg q a b H H') (h : H p = some o) (ne : p ≠ q) : H' p = some o := c.but _ _ h ne
theorem Chg.getK (c : Chg q a b H H') (h : H p = some o) (ne : (kd o == kd a) = false) : H' p = some o := c.but _ _ h (ne_of h c.was fun z => by
  subst z
  rw [beq_self_eq_true] at ne
  cases ne)
theorem sbutGet (n : SameBut q H H') (h : H p = some o) (ne : p ≠ q) : H' p = some o := n _ _ h ne
theorem keepGet (k : Keep H H') (h : H p = some o) (s : still o) : H' p = some o := k _ _ h s
theorem New.ne (n : New p o H H') (h : H q = some u) : p ≠ q := (ne_of_none h n.free).symm
theorem New.keep (n : New q u H H') : Keep H H' := Keep.of n.same
theorem Chg.keep (c : Chg q a b H H') (s : ¬ still a) : Keep H H' := fun x y e st => c.but x y e (fun z => by
  subst z
  have := c.was.symm.trans e
  cases this
  exact s st)
theorem Chg.keepL {xs : List V} (c : Chg q (.lst xs) b H H') : Keep H H' := c.keep (fun h => h)
theorem Chg.keepD {xs : List (L2.Key × V)} (c : Chg q (.dK xs) b H H') : Keep H H' := c.keep (fun h => h)
theorem Chg.keepE {xs : List (List L2.Key × V)} (c : Chg q (.dT xs) b H H') : Keep H H' := c.keep (fun h => h)
theorem keepStep (k : Keep H' H'') (l : Keep H H') : Keep H H'' := l.trans k
theorem sameStep (k : Same H' H'') (l : Same H H') : Same H H'' := l.trans k
/-- an object of one's own was changed: seen from ahead of its making nothing is -/
theorem Chg.sameOwn (c : Chg q a b H' H'') (l : Same H H') (f : H q = none) : Same H H'' := fun x y e => c.but _ _ (l _ _ e) (ne_of_none e f)
theorem butStep (k : Same H' H'') (l : SameBut p H H') : SameBut p H H'' := fun x y e n => k _ _ (l _ _ e n)
theorem Chg.butStep (c : Chg p a b H' H'') (l : SameBut p H H') : SameBut p H H'' := fun x y e n => c.but _ _ (l _ _ e n) n
theorem freeBack (h : H' p = none) (s : Same H H') : H p = none := s.free h
end
section
variable {K : PySem.W.Frag} {σ σ' : St} {H : Hp} {Q : VK}
theorem w_seq {t u : TS} {D : Ends} (h : t { D with nx := u D } σ H) : tSeq t u D σ H := h
theorem w_next {D : Ends} (h : D.nx σ H) : tNext D σ H := h
theorem w_nx {nx : St → Hp → Prop} {rt : V → Hp → Prop} {bk ct : St → Hp → Prop} (h : nx σ H) : Ends.nx ⟨nx, rt, bk, ct⟩ σ H := h
theorem w_rt {nx : St → Hp → Prop} {rt : V → Hp → Prop} {bk ct : St → Hp → Prop} {v : V} (h : rt v H) : Ends.rt ⟨nx, rt, bk, ct⟩ v H := h
theorem w_bk {nx : St → Hp → Prop} {rt : V → Hp → Prop} {bk ct : St → Hp → Prop} (h : bk σ H) : Ends.bk ⟨nx, rt, bk, ct⟩ σ H := h
theorem w_ct {nx : St → Hp → Prop} {rt : V → Hp → Prop} {bk ct : St → Hp → Prop} (h : ct σ H) : Ends.ct ⟨nx, rt, bk, ct⟩ σ H := h
theorem w_break {D : Ends} (h : D.bk σ H) : tBreak D σ H := h
theorem w_cont {D : Ends} (h : D.ct σ H) : tCont D σ H := h
theorem w_drop {te : TE} {D : Ends} (h : te σ H fun _ H1 => D.nx σ H1) : tDrop te D σ H := h
theorem w_ret {te : TE} {D : Ends} (h : te σ H D.rt) : tRet te D σ H := h
theorem w_retN {D : Ends} (h : D.rt .non H) : tRetN D σ H := h
theorem w_ifS {c : TT} {t u : TS} {D : Ends} (h : c σ H fun b H1 => if b = true then t D σ H1 else u D σ H1) : tIfS c t u D σ H := h
theorem w_if {c : TT} {t u : TE} (h : c σ H fun b H1 => if b = true then t σ H1 Q else u σ H1 Q) : tIf c t u σ H Q := h
theorem w_asg {te : TE} {g : TG} {D : Ends} (h : te σ H fun x H1 => g x σ H1 D.nx) : tAsg te g D σ H := h
theorem w_name {i : Nat} {v : V} {Q : St → Hp → Prop} (h : ∀ σ', σ.set i (some v) = σ' → Q σ' H) : gName i v σ H Q := h _ rfl
theorem w_var {i : Nat} {v : V} (e : σ[i]? = some (some v)) (h : Q v H) : tVar i σ H Q := ⟨v, e, h⟩
theorem w_C {v : V} (h : Q v H) : tC v σ H Q := h
theorem w_op {r : R2} {ta tb : TE} (h : ta σ H fun x H1 => tb σ H1 fun y H2 => r x y H2 Q) : tOp r ta tb σ H Q := h
theorem w_un {r : V → Hp → VK → Prop} {ta : TE} (h : ta σ H fun x H1 => r x H1 Q) : tUn r ta σ H Q := h
theorem w_rI0 {g : Int → Int → V} {i j : Int} (h : Q (g i j) H) : rI0 g (.int i) (.int j) H Q := ⟨i, j, rfl, rfl, h⟩
theorem w_rI {C : Int → Int → Prop} {g : Int → Int → V} {i j : Int} (c : C i j) (h : Q (g i j) H) : rI C g (.int i) (.int j) H Q := ⟨i, j, rfl, rfl, c, h⟩
theorem w_rU {g : Int → V} {i : Int} (h : Q (g i) H) : rU g (.int i) H Q := ⟨i, rfl, h⟩
theorem dec_vi {i j : Int} : decide (V.int i = V.int j) = decide (i = j) := by simp
theorem dec_vs {i j : Str} : decide (V.str i = V.str j) = decide (i = j) := by simp
theorem w_rEqI {i j : Int} (h : Q (.bl (decide (i = j))) H) : rEq (.int i) (.int j) H Q := ⟨rfl, by rw [dec_vi]; exact h⟩
theorem w_rNeI {i j : Int} (h : Q (.bl (!decide (i = j))) H) : rNe (.int i) (.int j) H Q := ⟨rfl, by rw [dec_vi]; exact h⟩
theorem w_rEqS {i j : Str} (h : Q (.bl (decide (i = j))) H) : rEq (.str i) (.str j) H Q := ⟨rfl, by rw [dec_vs]; exact h⟩
theorem w_rNeS {i j : Str} (h : Q (.bl (!decide (i = j))) H) : rNe (.str i) (.str j) H Q := ⟨rfl, by rw [dec_vs]; exact h⟩
theorem w_tB {t : TE} {Q : Bool → Hp → Prop} (h : t σ H fun x H1 => ∃ c, x = .bl c ∧ Q c H1) : tB t σ H Q := h
theorem w_test {t : TE} {Q : Bool → Hp → Prop} (h : t σ H fun x H1 => ∃ c, x = .bl c ∧ Q c H1) : tTest t σ H Q := h
theorem w_bl {b : Bool} {Q : Bool → Hp → Prop} (h : Q b H) : ∃ c, V.bl b = .bl c ∧ Q c H := ⟨b, rfl, h⟩
theorem w_blB {b : Bool} {P : Bool → Prop} (h : P b) : ∃ c, V.bl b = .bl c ∧ P c := ⟨b, rfl, h⟩
theorem w_and {t u : TT} {Q : Bool → Hp → Prop} (h : t σ H fun c H1 => if c = true then u σ H1 Q else Q false H1) : tAnd t u σ H Q := h
theorem w_or {t u : TT} {Q : Bool → Hp → Prop} (h : t σ H fun c H1 => if c = true then Q true H1 else u σ H1 Q) : tOr t u σ H Q := h
theorem w_not {t : TT} {Q : Bool → Hp → Prop} (h : t σ H fun c H1 => Q (!c) H1) : tNot t σ H Q := h
theorem w_andV {ta tb : TE} (h : ta σ H fun x H1 => ∃ c, x = .bl c ∧ if c = true then tb σ H1 Q else Q (.bl false) H1) : tAndV ta tb σ H Q := h
theorem w_orV {ta tb : TE} (h : ta σ H fun x H1 => ∃ c, x = .bl c ∧ if c = true then Q (.bl true) H1 else tb σ H1 Q) : tOrV ta tb σ H Q := h
theorem w_notV {ta : TE} (h : ta σ H fun x H1 => ∃ c, x = .bl c ∧ Q (.bl (!c)) H1) : tNotV ta σ H Q := h
theorem w_isN {ta : TE} (h : ta σ H fun x H1 => Q (.bl (decide (x = .non))) H1) : tIsN ta σ H Q := h
theorem w_notN {ta : TE} (h : ta σ H fun x H1 => Q (.bl (!decide (x = .non))) H1) : tNotN ta σ H Q := h
theorem w_nil {Q : List V → Hp → Prop} (h : Q [] H) : tNil σ H Q := h
theorem w_cons {ta : TE} {tr : TA} {Q : List V → Hp → Prop} (h : ta σ H fun x H1 => tr σ H1 fun xs H2 => Q (x :: xs) H2) : tCons ta tr σ H Q := h
theorem w_cb {r : List V → Hp → VK → Prop} {t : TA} (h : t σ H fun vs H1 => r vs H1 Q) : tCB r t σ H Q := h
theorem w_call {sp : Sp} {dvs : List V} {E : XK} {t : TA} (h : t σ H fun vs H1 => sp (vs ++ dvs) H1 Q E) : tCall sp dvs E t σ H Q := h
def kNew (f : List V → HO) (xs : List V) (H : Hp) (Q : VK) : Prop := xs.length ≤ sizeLine ∧ ∀ p, H p = none → Q (.ref p) (upd H p (f xs))
theorem w_tup {t : TA} (h : t σ H fun xs H1 => kNew .tup xs H1 Q) : tTup t σ H Q := h
theorem w_lst {t : TA} (h : t σ H fun xs H1 => kNew .lst xs H1 Q) : tLst t σ H Q := h
theorem w_newT {xs : List V} (hl : xs.length ≤ sizeLine) (h : ∀ p H', New p (.tup xs) H H' → Q (.ref p) H') : kNew .tup xs H Q := ⟨hl, fun p hp => h p _ (New.mk' hp)⟩
theorem w_newL {xs : List V} (hl : xs.length ≤ sizeLine) (h : ∀ p H', New p (.lst xs) H H' → Q (.ref p) H') : kNew .lst xs H Q := ⟨hl, fun p hp => h p _ (New.mk' hp)⟩
theorem w_ixT {p : Addr} {xs : List V} {i : Int} {v : V} (a : H p = some (.tup xs)) (e : atI xs i = some v) (h : Q v H) : rIxT K (.ref p) (.int i) H Q := ⟨p, xs, i, v, rfl, rfl, SqT.of a, e, h⟩
theorem w_ixL {p : Addr} {xs : List V} {i : Int} {v : V} (a : H p = some (.lst xs)) (e : atI xs i = some v) (h : Q v H) : rIxL K (.ref p) (.int i) H Q := ⟨p, xs, i, v, rfl, rfl, SqL.of a, e, h⟩
theorem w_lenL {p : Addr} {xs : List V} {P : List V → Prop} (a : H p = some (.lst xs)) (h : P xs) : ∃ p' ys, [V.ref p] = [.ref p'] ∧ (SqL K H p' ys ∨ SqT K H p' ys) ∧ P ys := ⟨p, xs, rfl, .inl (SqL.of a), h⟩
theorem w_lenT {p : Addr} {xs : List V} {P : List V → Prop} (a : H p = some (.tup xs)) (h : P xs) : ∃ p' ys, [V.ref p] = [.ref p'] ∧ (SqL K H p' ys ∨ SqT K H p' ys) ∧ P ys := ⟨p, xs, rfl, .inr (SqT.of a), h⟩
theorem w_bm {T : String} {r : V → List V → Hp → VK → Prop} {to : TE} {t : TA} (h : to σ H fun x H1 => tyV K T x H1 ∧ t σ H1 fun xs H2 => r x xs H2 Q) : tBM K T r to t σ H Q := h
theorem w_bm0 {T : String} {r : V → List V → Hp → VK → Prop} {to : TE} (h : to σ H fun x H1 => tyV K T x H1 ∧ r x [] H1 Q) : tBM0 K T r to σ H Q := h
theorem w_tyL {p : Addr} {xs : List V} {B : Prop} (a : H p = some (.lst xs)) (h : B) : tyV K "list" (.ref p) H ∧ B := ⟨.inl ⟨rfl, _, SqL.of a⟩, h⟩
theorem w_append {l : Addr} {xs : List V} {y : V} (a : H l = some (.lst xs)) (sz : xs.length < sizeLine) (h : ∀ H', Chg l (.lst xs) (.lst (xs ++ [y])) H H' → Q .non H') : rAppend (.ref l) [y] H Q := ⟨l, xs, y, rfl, rfl, a, sz, h _ (Chg.mk' a)⟩
theorem w_setL {l : Addr} {xs : List V} {k : Int} {j : Nat} {v : V} {Q : Hp → Prop} (a : H l = some (.lst xs)) (e : ixN xs.length k = some j) (h : ∀ H', Chg l (.lst xs) (.lst (xs.set j v)) H H' → Q H') : rSetL (.ref l) (.int k) v H Q := ⟨l, xs, k, j, rfl, rfl, a, e, h _ (Chg.mk' a)⟩
theorem w_fld {ta : TE} {f : Str} (h : ta σ H fun x H1 => ∃ a C dx fs v, x = .ref a ∧ H1 a = some (.ins C dx fs) ∧ Cls K C ∧ NoAttr K C f ∧ fs.lookup f = some v ∧ Q v H1) : tFld K ta f σ H Q := h
theorem w_fld1 {a C dx : Addr} {fs : List (Str × V)} {v : V} {f : Str} (i : H a = some (.ins C dx fs)) (c : Cls K C) (n : NoAttr K C f) (l : fs.lookup f = some v) (h : Q v H) : ∃ a' C' dx' fs' v', V.ref a = .ref a' ∧ H a' = some (.ins C' dx' fs') ∧ Cls K C' ∧ NoAttr K C' f ∧ fs'.lookup f = some v' ∧ Q v' H := ⟨a, C, dx, fs, v, rfl, i, c, n, l, h⟩
theorem w_par {i j : Nat} {ta : TA} {D : Ends} (h : ta σ H fun vs H1 => ∃ v w, vs = [v, w] ∧ D.nx ((σ.set i (some v)).set j (some w)) H1) : tPar i j ta D σ H := h
theorem w_par1 {v w : V} {P : V → V → Prop} (h : P v w) : ∃ v' w', [v, w] = [v', w'] ∧ P v' w' := ⟨v, w, rfl, h⟩
theorem w_aug {i : Nat} {x : V} {te : TE} {ti : TIp} {D : Ends} (e : σ[i]? = some (some x)) (h : te σ H fun y H1 => ti x y H1 fun z H2 => D.nx (σ.set i (some z)) H2) : tAug i te ti D σ H := ⟨x, e, h⟩
theorem w_forT {a : Addr} {xs : List V} {P : Addr → Prop} (t : H a = some (.tup xs)) (h : P a) : ∃ a', V.ref a = .ref a' ∧ (∃ xs, SqT K H a' xs) ∧ P a' := ⟨a, rfl, ⟨xs, SqT.of t⟩, h⟩
theorem w_forL {a : Addr} {xs : List V} {P : Addr → Prop} (t : H a = some (.lst xs)) (h : P a) : ∃ a', V.ref a = .ref a' ∧ (∃ xs, SqL K H a' xs) ∧ P a' := ⟨a, rfl, ⟨xs, SqL.of t⟩, h⟩
theorem w_inT {x : V} {p : Addr} {xs : List V} (a : H p = some (.tup xs)) (f : flatV x = true) (g : xs.all flatV = true) (h : Q (.bl (inV x xs)) H) : rIn K false x (.ref p) H Q := ⟨p, xs, rfl, .inr (SqT.of a), f, g, h⟩
theorem w_inL {x : V} {p : Addr} {xs : List V} (a : H p = some (.lst xs)) (f : flatV x = true) (g : xs.all flatV = true) (h : Q (.bl (inV x xs)) H) : rIn K false x (.ref p) H Q := ⟨p, xs, rfl, .inl (SqL.of a), f, g, h⟩
theorem w_iTup {tl : TE} {R : It → Hp → Prop} (h : tl σ H fun x H1 => ∃ a, x = .ref a ∧ (∃ xs, SqT K H1 a xs) ∧ R (Itt K a) H1) : iTup K tl σ H R := h
theorem w_iList {tl : TE} {R : It → Hp → Prop} (h : tl σ H fun x H1 => ∃ a, x = .ref a ∧ (∃ xs, SqL K H1 a xs) ∧ R (Itl K a) H1) : iList K tl σ H R := h
end
/-- a loop over what is walked -/
def kFor (J : It) (g : TG) (tb : TS) (D : Ends) (σ : St) (H : Hp) : Prop := tFor (fun _ H1 R => R J H1) g tb D σ H
theorem w_for {wi : TI} {g : TG} {tb : TS} {D : Ends} {σ : St} {H : Hp} (h : wi σ H fun J H1 => kFor J g tb D σ H1) : tFor wi g tb D σ H := h
section
variable {K : PySem.W.Frag} {a : Addr} {xs : List V} {g : TG} {tb : TS} {D : Ends} {σ : St} {H : Hp}
theorem k_forT (xs : List V) (Pv : Nat → St → Hp → Prop) (h0 : Pv 0 σ H) (hl : ∀ i σ H, i ≤ xs.length → Pv i σ H → SqT K H a xs)
    (hs : ∀ i x σ H, xs[i]? = some x → Pv i σ H → g x σ H fun σ2 H2 => tb { D with nx := Pv (i + 1), ct := Pv (i + 1), bk := D.nx } σ2 H2) (hd : ∀ σ H, Pv xs.length σ H → D.nx σ H) : kFor (Itt K a) g tb D σ H := for_tup Pv h0 hl hs hd
theorem k_forL (xs : List V) (Pv : Nat → St → Hp → Prop) (h0 : Pv 0 σ H) (hl : ∀ i σ H, i ≤ xs.length → Pv i σ H → SqL K H a xs)
    (hs : ∀ i x σ H, xs[i]? = some x → Pv i σ H → g x σ H fun σ2 H2 => tb { D with nx := Pv (i + 1), ct := Pv (i + 1), bk := D.nx } σ2 H2) (hd : ∀ σ H, Pv xs.length σ H → D.nx σ H) : kFor (Itl K a) g tb D σ H := for_list Pv h0 hl hs hd
theorem k_forR {lo : Int} {n : Nat} (Pv : Nat → St → Hp → Prop) (h0 : Pv 0 σ H)
    (hs : ∀ i σ H, i < n → Pv i σ H → g (.int (lo + i)) σ H fun σ2 H2 => tb { D with nx := Pv (i + 1), ct := Pv (i + 1), bk := D.nx } σ2 H2) (hd : ∀ σ H, Pv n σ H → D.nx σ H) : kFor (Itr lo n) g tb D σ H := for_range Pv h0 hs hd
end
section
variable {K : PySem.W.Frag} {σ σ' : St} {H : Hp} {Q : VK}
theorem pg_tupK {X : Cx} {es : List Expr} {k : Nat} {t : TGs} {n : Nat} {pos : Pos} (hK : X.K = K) (hc : X.calm = true) (h : PGs X es t)
    (hn : (assignEach es X.env).length = n := by rfl) (hst : (assignEach es X.env).findIdx? (·.1) = none := by rfl) : PG X (.Tuple es k pos) (gTup K n t) := by
  subst hK
  exact pg_tup hc h hn hst
theorem w_gTup {n : Nat} {t : TGs} {p : Addr} {xs : List V} {Q : St → Hp → Prop} (a : H p = some (.tup xs)) (e : xs.length = n) (h : t xs σ H Q) : gTup K n t (.ref p) σ H Q := ⟨p, xs, rfl, SqT.of a, e, h⟩
theorem w_gCons {t : TG} {u : TGs} {v : V} {r : List V} {Q : St → Hp → Prop} (h : t v σ H fun σ' H' => u r σ' H' Q) : gCons t u (v :: r) σ H Q := ⟨v, r, rfl, h⟩
theorem w_gNil {Q : St → Hp → Prop} (h : Q σ H) : gNil [] σ H Q := ⟨rfl, h⟩
/-- a list made of what is walked -/
def kLc (J : It) (g : TG) (tt : TT) (te : TE) (vs : List Nat) (σ : St) (H : Hp) (Q : VK) : Prop := tLc (fun _ H1 R => R J H1) g tt te vs σ H Q
theorem w_lc {wi : TI} {g : TG} {tt : TT} {te : TE} {vs : List Nat} (h : wi σ H fun J H1 => kLc J g tt te vs σ H1 Q) : tLc wi g tt te vs σ H Q := h
/-- the item that is made goes to the list -/
def kAcc (D : Addr) (y : V) (H : Hp) (P : Hp → Prop) : Prop := ∃ acc, H D = some (.lst acc) ∧ acc.length < sizeLine ∧ P (upd H D (.lst (acc ++ [y])))
theorem w_acc {D : Addr} {y : V} {P : Hp → Prop} {acc : List V} (a : H D = some (.lst acc)) (sz : acc.length < sizeLine) (h : ∀ H', Chg D (.lst acc) (.lst (acc ++ [y])) H H' → P H') : kAcc D y H P := ⟨acc, a, sz, h _ (Chg.mk' a)⟩
abbrev kTurn (g : TG) (tt : TT) (te : TE) (vs : List Nat) (σ : St) (D : Addr) (x : V) (H : Hp) (P : Hp → Prop) : Prop :=
  g x (wipe σ vs) H fun σ2 H2 => wipe σ2 vs = wipe σ vs ∧ tt σ2 H2 fun b H3 => if b = true then te σ2 H3 fun y H4 => kAcc D y H4 P else P H3
theorem k_lcR {lo : Int} {n : Nat} {g : TG} {tt : TT} {te : TE} {vs : List Nat} (Pv : Addr → Nat → Hp → Prop) (h0 : ∀ D H', New D (.lst []) H H' → Pv D 0 H')
    (hs : ∀ D, H D = none → ∀ i H2, i < n → Pv D i H2 → kTurn g tt te vs σ D (.int (lo + i)) H2 (Pv D (i + 1))) (hd : ∀ D, H D = none → ∀ H2, Pv D n H2 → Q (.ref D) H2) : kLc (Itr lo n) g tt te vs σ H Q :=
  fun D hD => lc_range (Pv D) (h0 D _ (New.mk' hD)) (hs D hD) (hd D hD)
theorem k_lcL {a : Addr} (xs : List V) {g : TG} {tt : TT} {te : TE} {vs : List Nat} (Pv : Addr → Nat → Hp → Prop) (h0 : ∀ D H', New D (.lst []) H H' → Pv D 0 H') (hl : ∀ D i H, i ≤ xs.length → Pv D i H → SqL K H a xs)
    (hs : ∀ D, H D = none → ∀ i x H2, xs[i]? = some x → Pv D i H2 → kTurn g tt te vs σ D x H2 (Pv D (i + 1))) (hd : ∀ D, H D = none → ∀ H2, Pv D xs.length H2 → Q (.ref D) H2) : kLc (Itl K a) g tt te vs σ H Q :=
  fun D hD => lc_list (Pv D) (h0 D _ (New.mk' hD)) (hl D) (hs D hD) (hd D hD)
theorem k_lcT {a : Addr} (xs : List V) {g : TG} {tt : TT} {te : TE} {vs : List Nat} (Pv : Addr → Nat → Hp → Prop) (h0 : ∀ D H', New D (.lst []) H H' → Pv D 0 H') (hl : ∀ D i H, i ≤ xs.length → Pv D i H → SqT K H a xs)
    (hs : ∀ D, H D = none → ∀ i x H2, xs[i]? = some x → Pv D i H2 → kTurn g tt te vs σ D x H2 (Pv D (i + 1))) (hd : ∀ D, H D = none → ∀ H2, Pv D xs.length H2 → Q (.ref D) H2) : kLc (Itt K a) g tt te vs σ H Q :=
  fun D hD => lc_tup (Pv D) (h0 D _ (New.mk' hD)) (hl D) (hs D hD) (hd D hD)
theorem w_wipe {a b : St} {vs : List Nat} {B : Prop} (e : wipe a vs = wipe b vs) (h : B) : wipe a vs = wipe b vs ∧ B := ⟨e, h⟩
theorem w_yes {Q : Bool → Hp → Prop} (h : Q true H) : tYes σ H Q := h
theorem w_rng1 {ta : TA} {R : It → Hp → Prop} (h : ta σ H fun vs H1 => ∃ j : Int, vs = [.int j] ∧ -(2 ^ 62) ≤ j ∧ j < 2 ^ 62 ∧ R (Itr 0 j.toNat) H1) : iRng1 ta σ H R := h
theorem w_rng2 {ta : TA} {R : It → Hp → Prop} (h : ta σ H fun vs H1 => ∃ i j : Int, vs = [.int i, .int j] ∧ (-(2 ^ 62) ≤ i ∧ i < 2 ^ 62 ∧ -(2 ^ 62) ≤ j ∧ j < 2 ^ 62) ∧ R (Itr i (j - i).toNat) H1) : iRng2 ta σ H R := h
theorem w_rng1a {a : Int} {P : Int → Prop} (h1 : -(2 ^ 62) ≤ a) (h2 : a < 2 ^ 62) (h : P a) : ∃ j : Int, [V.int a] = [.int j] ∧ -(2 ^ 62) ≤ j ∧ j < 2 ^ 62 ∧ P j := ⟨a, rfl, h1, h2, h⟩
theorem w_rng2a {a b : Int} {P : Int → Int → Prop} (h1 : -(2 ^ 62) ≤ a) (h2 : a < 2 ^ 62) (h3 : -(2 ^ 62) ≤ b) (h4 : b < 2 ^ 62) (h : P a b) : ∃ i j : Int, [V.int a, V.int b] = [.int i, .int j] ∧ (-(2 ^ 62) ≤ i ∧ i < 2 ^ 62 ∧ -(2 ^ 62) ≤ j ∧ j < 2 ^ 62) ∧ P i j := ⟨a, b, rfl, ⟨h1, h2, h3, h4⟩, h⟩
theorem w_cat {l b : Addr} {xs zs : List V} (h1 : H l = some (.lst xs)) (h2 : H b = some (.lst zs)) (sz : xs.length + zs.length ≤ sizeLine) (h : ∀ p H', New p (.lst (xs ++ zs)) H H' → Q (.ref p) H') : rCat (.ref l) (.ref b) H Q := ⟨l, b, xs, zs, rfl, rfl, h1, h2, sz, fun p hp => h p _ (New.mk' hp)⟩
theorem w_rep {l : Addr} {xs : List V} {k : Int} (h1 : H l = some (.lst xs)) (ha : -(2 ^ 63) ≤ k) (hb : k < 2 ^ 63) (sz : xs.length * k.toNat ≤ sizeLine) (h : ∀ p H', New p (.lst (List.replicate k.toNat xs).flatten) H H' → Q (.ref p) H') : rRep (.ref l) (.int k) H Q := ⟨l, k, xs, rfl, rfl, h1, ha, hb, sz, fun p hp => h p _ (New.mk' hp)⟩
end
section
variable {X : Cx} {K : PySem.W.Frag}
theorem cr_allK (h : X.K = K) (hc : X.calm = true) : CallR X (.builtin "all") (rAll K) := by
  subst h
  exact cr_all hc
theorem pi_zipAK {e e2 : Expr} {ta : TA} {p pos tpos : Pos} {elts : List Expr} {kk : Nat} (h : X.K = K) (hg : Gl X "zip") (hm : X.mg "zip" = none) (ha : PA X [e, e2] ta)
    (hs : starEach [e, e2] X.env = (false, eval e X.env) :: starEach [e2] X.env := by rfl) (hpl : (backTo pos (starEach [e2] X.env)).any (·.1) = false := by rfl) :
    PI X (.Tuple elts kk tpos) (.Call (.Name "zip" p) [e, e2] [] pos) (RZ.iZipA K ta) := by
  subst h
  exact RZ.pi_zipA hg hm ha hs hpl
end
theorem iteNF {c A B : Prop} [Decidable c] (hc : c) (h : B) : if (!decide c) = true then A else B := by
  rw [decide_eq_true hc]
  exact h
theorem iteNT {c A B : Prop} [Decidable c] (hc : ¬ c) (h : A) : if (!decide c) = true then A else B := by
  rw [decide_eq_false hc]
  exact h
theorem newOf {H H' : Hp} {p : Addr} {o : HO} (h : H p = none) (e : upd H p o = H') : New p o H H' := by
  subst e
  exact New.mk' h
section
variable {K : PySem.W.Frag} {σ σ' : St} {H : Hp} {Q : VK}
theorem k_lcZ {a b : Addr} (xs ys : List V) {g : TG} {tt : TT} {te : TE} {vs : List Nat} (hl : xs.length = ys.length) (Pv : Addr → Nat → Hp → Prop) (h0 : ∀ D H', New D (.lst []) H H' → Pv D 0 H') (hq : ∀ D i H, Pv D i H → SqT K H a xs ∧ SqT K H b ys)
    (hs : ∀ D, H D = none → ∀ i x y T H2 H3, xs[i]? = some x → ys[i]? = some y → Pv D i H2 → New T (.tup [x, y]) H2 H3 → kTurn g tt te vs σ D (.ref T) H3 (Pv D (i + 1))) (hd : ∀ D, H D = none → ∀ H2, Pv D xs.length H2 → Q (.ref D) H2) : kLc (RZ.ItzT K a b) g tt te vs σ H Q := by
  intro D hD
  refine ⟨fun i m H2 => m = xs.length - i ∧ i ≤ xs.length ∧ Pv D i H2, ⟨xs.length, by simp, Nat.zero_le _, h0 D _ (New.mk' hD)⟩, ?_⟩
  rintro i m H2 ⟨rfl, hi, p⟩
  obtain ⟨q1, q2⟩ := hq D i H2 p
  by_cases hlt : i < xs.length
  · refine .inr ⟨⟨xs, ys, xs[i], ys[i], q1, q2, by simp [hlt], by simp⟩, Pv D (i + 1), fun H' p' => ⟨xs.length - (i + 1), by omega, rfl, hlt, p'⟩, fun v H' y => ?_⟩
    obtain ⟨T, x, y', rfl, hT, rfl, hx, hy⟩ := y
    exact hs D hD i x y' T H2 _ (hx _ q1) (hy _ q2) p (New.mk' hT)
  · have e : i = xs.length := by omega
    subst e
    exact .inl ⟨⟨xs, ys, q1, q2, .inl (Nat.le_refl _)⟩, hd D hD H2 p⟩
theorem w_zipA {ta : TA} {R : It → Hp → Prop} (h : ta σ H fun vs H1 => ∃ a b xs ys, vs = [.ref a, .ref b] ∧ ((SqL K H1 a xs ∧ SqL K H1 b ys ∧ R (Itz K a b) H1) ∨ (SqT K H1 a xs ∧ SqT K H1 b ys ∧ R (RZ.ItzT K a b) H1))) : RZ.iZipA K ta σ H R := h
theorem w_zipT {a b : Addr} {xs ys : List V} {R : Addr → Addr → Prop} {P : Addr → Addr → Prop} (h1 : H a = some (.tup xs)) (h2 : H b = some (.tup ys)) (h : P a b) : ∃ a' b' xs' ys', [V.ref a, V.ref b] = [.ref a', .ref b'] ∧ ((SqL K H a' xs' ∧ SqL K H b' ys' ∧ R a' b') ∨ (SqT K H a' xs' ∧ SqT K H b' ys' ∧ P a' b')) :=
  ⟨a, b, xs, ys, rfl, .inr ⟨SqT.of h1, SqT.of h2, h⟩⟩
theorem w_meth {C : Addr} {m : Str} {sp : Sp} {dvs : List V} {E : XK} {ta : TE} {t : TA} (h : ta σ H fun x H1 => ∃ a dx fs, x = .ref a ∧ H1 a = some (.ins C dx fs) ∧ fs.lookup m = none ∧ t σ H1 fun vs H2 => sp (x :: (vs ++ dvs)) H2 Q E) : tMeth C m sp dvs E ta t σ H Q := h
theorem w_meth1 {p C dx : Addr} {fs : List (Str × V)} {m : Str} {B : Prop} (i : H p = some (.ins C dx fs)) (l : fs.lookup m = none) (h : B) : ∃ a' dx' fs', V.ref p = .ref a' ∧ H a' = some (.ins C dx' fs') ∧ fs'.lookup m = none ∧ B := ⟨p, dx, fs, rfl, i, l, h⟩
theorem w_tupOfL {p : Addr} {xs : List V} {P : List V → Prop} {R : Addr → Prop} (a : H p = some (.lst xs)) (h : P xs) : ∃ p' ys, [V.ref p] = [.ref p'] ∧ ((SqL K H p' ys ∧ P ys) ∨ (SqT K H p' ys ∧ R p')) := ⟨p, xs, rfl, .inl ⟨SqL.of a, h⟩⟩
theorem w_tupOfT {p : Addr} {xs : List V} {P : List V → Prop} {R : Addr → Prop} (a : H p = some (.tup xs)) (h : R p) : ∃ p' ys, [V.ref p] = [.ref p'] ∧ ((SqL K H p' ys ∧ P ys) ∨ (SqT K H p' ys ∧ R p')) := ⟨p, xs, rfl, .inr ⟨SqT.of a, h⟩⟩
theorem w_intB {b : Bool} {P : Int → Prop} {R : Bool → Prop} (h : R b) : (∃ i, [V.bl b] = [.int i] ∧ P i) ∨ ∃ k, [V.bl b] = [.bl k] ∧ R k := .inr ⟨b, rfl, h⟩
theorem w_intI {i : Int} {P : Int → Prop} {R : Bool → Prop} (h : P i) : (∃ i', [V.int i] = [.int i'] ∧ P i') ∨ ∃ k, [V.int i] = [.bl k] ∧ R k := .inl ⟨i, rfl, h⟩
theorem w_sl {r : V → Option Int → Option Int → Hp → VK → Prop} {te : TE} {tl th : TO} (h : te σ H fun x H1 => tl σ H1 fun l H2 => th σ H2 fun u H3 => r x l u H3 Q) : tSl r te tl th σ H Q := h
theorem w_part {t : TE} {Q : Option Int → Hp → Prop} (h : t σ H fun x H1 => ∃ i, x = .int i ∧ Q (some i) H1) : tPart t σ H Q := h
theorem w_part1 {i : Int} {P : Int → Prop} (h : P i) : ∃ i', V.int i = .int i' ∧ P i' := ⟨i, rfl, h⟩
theorem w_nopart {Q : Option Int → Hp → Prop} (h : Q none H) : tNoPart σ H Q := h
theorem w_slL {a : Addr} {xs : List V} {lo hi : Option Int} (i : H a = some (.lst xs)) (h : ∀ p H', New p (.lst (cutV xs lo hi)) H H' → Q (.ref p) H') : rSlL K (.ref a) lo hi H Q := ⟨a, xs, rfl, SqL.of i, fun p hp => h p _ (New.mk' hp)⟩
theorem w_isi {x : V} {n t : String} {b : Bool} (ty : TyX K H x (.type t)) (k : kitB t n = some b) (h : Q (.bl b) H) : rIsi K [x, .ty n] H Q := ⟨x, .ty n, _, _, b, rfl, .ty n, ty, kit_ty k, h⟩
theorem w_all {a : Addr} {bs : List Bool} (i : H a = some (.lst (bs.map V.bl))) (h : Q (.bl (bs.all id)) H) : rAll K [.ref a] H Q := ⟨a, bs, rfl, SqL.of i, h⟩
theorem w_gSub {to ti : TE} {t : TSet} {v : V} {Q : St → Hp → Prop} (h : to σ H fun o H1 => ti σ H1 fun i H2 => t o i v H2 fun H3 => Q σ H3) : gSub to ti t v σ H Q := h
/-- a field is stored -/
def kSet (K : PySem.W.Frag) (f : Str) (y x : V) (H : Hp) (P : Hp → Prop) : Prop := sFld K (tC x) (tC y) f ⟨fun _ H' => P H', fun _ _ => True, fun _ _ => True, fun _ _ => True⟩ [] H
theorem w_sfld {ta tv : TE} {f : Str} {D : Ends} (h : tv σ H fun y H1 => ta σ H1 fun x H2 => kSet K f y x H2 (fun H3 => D.nx σ H3)) : sFld K ta tv f D σ H := h
theorem w_kset {p C dx : Addr} {f : Str} {y : V} {fs : List (Str × V)} {P : Hp → Prop} (i : H p = some (.ins C dx fs)) (c : Cls K C) (n : NoAttr K C f) (l : fs.length < 1000) (h : ∀ H', Chg p (.ins C dx fs) (.ins C dx (putF f y fs)) H H' → P H') : kSet K f y (.ref p) H P := ⟨p, C, dx, fs, rfl, i, c, n, l, h _ (Chg.mk' i)⟩
/-- an instance is made -/
def kMake (C : Addr) (sp : Sp) (dvs : List V) (E : XK) (vs : List V) (H : Hp) (Q : VK) : Prop := tMake C sp dvs E (fun _ H1 R => R vs H1) [] H Q
theorem w_make {C : Addr} {sp : Sp} {dvs : List V} {E : XK} {t : TA} (h : t σ H fun vs H1 => kMake C sp dvs E vs H1 Q) : tMake C sp dvs E t σ H Q := h
end
section
variable {K : PySem.W.Frag} {σ σ' : St} {H : Hp} {Q : VK}
theorem w_isiO {p C D dx : Addr} {fs : List (Str × V)} {b : Bool} (i : H p = some (.ins C dx fs)) (cl : Cls K C) (ha : PySem.W.findIn K (.ref C) "__class__" = some (some (.builtin "object.__class__")))
    (hn : PySem.W.specialIn K (.builtin "object.__class__") "__get__" = some (some (.builtin "getset_descriptor.__get__"))) (htk : PySem.W.takesIn K (.builtin "object.__class__") = some true)
    (hm : PySem.W.mroIn K C (.type "object") = some true) (k : PySem.W.kitOne K (.ref C) (.ref D) = some b) (h : Q (.bl b) H) : rIsi K [.ref p, .ref D] H Q :=
  ⟨_, _, _, _, b, rfl, .own D, .base (.ins i cl ha hn htk hm), k, h⟩
theorem call_strK {X : Cx} : CallR X (.type "str") (fun xs H Q => (∃ i, xs = [.int i] ∧ i.natAbs.log2 < 1920 ∧ Q (.str (toString i)) H) ∨ ∃ a, xs = [.str a] ∧ Q (.str a) H) := by
  intro pins s σ H xs us Q I r h
  rcases h with h | h
  · exact call_str_int pins s σ H xs us Q I r h
  · exact SkE.call_str_str pins s σ H xs us Q I r h
theorem w_strI {i : Int} {P : Int → Prop} {R : Str → Prop} (l : i.natAbs.log2 < 1920) (h : P i) : (∃ i', [V.int i] = [.int i'] ∧ i'.natAbs.log2 < 1920 ∧ P i') ∨ ∃ a, [V.int i] = [.str a] ∧ R a := .inl ⟨i, rfl, l, h⟩
theorem w_strS {s : Str} {P : Int → Prop} {R : Str → Prop} (h : R s) : (∃ i', [V.str s] = [.int i'] ∧ i'.natAbs.log2 < 1920 ∧ P i') ∨ ∃ a, [V.str s] = [.str a] ∧ R a := .inr ⟨s, rfl, h⟩
theorem w_m1 {r : V → List V → Hp → VK → Prop} {to te : TE} (h : to σ H fun x H1 => (∃ a, x = .str a) ∧ te σ H1 fun y H2 => r x [y] H2 Q) : tM1 r to te σ H Q := h
theorem w_m1a {s : Str} {B : Prop} (h : B) : (∃ a, V.str s = .str a) ∧ B := ⟨⟨s, rfl⟩, h⟩
theorem w_join {s : Str} {p : Addr} {ys : List Str} {P : Str → List Str → Prop} (i : SqL K H p (ys.map V.str) ∨ SqT K H p (ys.map V.str)) (z : (ys.map (·.length)).sum + ys.length * s.length ≤ 16777216) (h : P s ys) :
    ∃ a p', ∃ ys' : List Str, V.str s = .str a ∧ [V.ref p] = [.ref p'] ∧ (SqL K H p' (ys'.map V.str) ∨ SqT K H p' (ys'.map V.str)) ∧ (ys'.map (·.length)).sum + ys'.length * a.length ≤ 16777216 ∧ P a ys' := ⟨s, p, ys, rfl, rfl, i, z, h⟩
theorem w_addS {x y : Str} {P : Str → Str → Prop} (z : x.length + y.length ≤ sizeLine) (h : P x y) : ∃ i j, V.str x = .str i ∧ V.str y = .str j ∧ i.length + j.length ≤ sizeLine ∧ P i j := ⟨x, y, rfl, rfl, z, h⟩
end
/-! ### rules that the machine needs -/
section
open PySem.Spec PyProof.Rows
theorem pe_globI {X : Cx} {x : Str} {v : Int} {pos : Pos} (hg : Gl X x) (hm : ∃ t, X.mg x = some (.int v t)) (hd : (x == ("__debug__" : Str)) = false := by decide) : PE X (.Name x pos) (tC (.int v)) := by
  obtain ⟨t, hm⟩ := hm
  exact pe_glob hg hm ⟨t, rfl⟩ hd
/-- xs == [], whatever xs holds -/
def rEqNil : R2 := fun x y H Q => ∃ a b xs, x = .ref a ∧ y = .ref b ∧ H a = some (.lst xs) ∧ H b = some (.lst []) ∧ Q (.bl xs.isEmpty) H
def rNeNil : R2 := fun x y H Q => ∃ a b xs, x = .ref a ∧ y = .ref b ∧ H a = some (.lst xs) ∧ H b = some (.lst []) ∧ Q (.bl (!xs.isEmpty)) H
theorem op_eqNil {X : Cx} (hu : X.A.units + 64 < cLine) : OpR X (compareOp .Eq) rEqNil := by
  intro pins s σ H x y v u Q I rx ry h
  obtain ⟨a, b, xs, rfl, rfl, ha, hb, q⟩ := h
  cases rx
  cases ry
  obtain ⟨z, its, n, r, hl, e⟩ := I.lstM ha
  obtain ⟨z2, its2, n2, r2, hl2, e2⟩ := I.lstM hb
  cases r2
  have i1 : s.heap.IsList a its.toArray := ⟨_, e, rfl, n, rfl⟩
  have i2 : s.heap.IsList b ([] : List Value).toArray := ⟨_, e2, rfl, n2, rfl⟩
  have fin : ∀ c : Bool, c = xs.isEmpty → EP X pins σ Q (.bool c) s := fun c hc => ⟨.bl xs.isEmpty, H, I, by subst hc; rfl, q⟩
  cases r with
  | nil => exact SeqAt.eq_listAt (e := fun _ => true) i1 i2 rfl (by omega) (fun j h1 => by simp at h1) (fin _ (by simp))
  | cons r1 r2 => exact SeqAt.eq_list_lengthsAt i1 i2 (by simp) (by omega) (fin _ rfl)
theorem op_neNil {X : Cx} (hu : X.A.units + 64 < cLine) : OpR X (compareOp .NotEq) rNeNil := by
  intro pins s σ H x y v u Q I rx ry h
  obtain ⟨a, b, xs, rfl, rfl, ha, hb, q⟩ := h
  cases rx
  cases ry
  obtain ⟨z, its, n, r, hl, e⟩ := I.lstM ha
  obtain ⟨z2, its2, n2, r2, hl2, e2⟩ := I.lstM hb
  cases r2
  have i1 : s.heap.IsList a its.toArray := ⟨_, e, rfl, n, rfl⟩
  have i2 : s.heap.IsList b ([] : List Value).toArray := ⟨_, e2, rfl, n2, rfl⟩
  have fin : ∀ c : Bool, c = (!xs.isEmpty) → EP X pins σ Q (.bool c) s := fun c hc => ⟨.bl (!xs.isEmpty), H, I, by subst hc; rfl, q⟩
  cases r with
  | nil => exact SeqAt.RcNeAt.lists (e := fun _ => true) i1 i2 rfl (by omega) (fun j h1 => by simp at h1) _ _ _ _ (fin _ (by simp))
  | cons r1 r2 => exact SeqAt.RcNeAt.lists_lengths i1 i2 (by simp) (by omega) _ _ _ _ (fin _ rfl)
/-- x.f as a target -/
def gAttr (K : PySem.W.Frag) (f : Str) (to : TE) : TG := fun v σ H Q => to σ H fun x H2 => kSet K f v x H2 (fun H3 => Q σ H3)
theorem w_gAttr {K : PySem.W.Frag} {f : Str} {to : TE} {v : V} {σ : L2.St} {H : Hp} {Q : L2.St → Hp → Prop} (h : to σ H fun x H2 => kSet K f v x H2 (fun H3 => Q σ H3)) : gAttr K f to v σ H Q := h
theorem pg_attr {X : Cx} {K : PySem.W.Frag} {o : Expr} {f : Str} {to : TE} {pos : Pos} (hK : X.K = K) (ho : PE X o to) : PG X (.Attribute o f pos) (gAttr K f to) := by
  subst hK
  refine ⟨fun pins s σ H v u Q I r h => ?_⟩
  refine PySem.W.kas_attr (thn (ho.run pins s σ H _ I h) fun ov s2 ⟨x, H2, I2, rx, a, C, dx, fs, ex, ea, c, n, l, q2⟩ => ?_)
  subst ex
  obtain rfl : ov = Value.ref a := rx
  exact setattr_ok I2 ea c n l r fun s3 I3 => ⟨σ, _, I3, q2⟩
/-- d.update(e), e another dict -/
def rUpdate : V → List V → Hp → VK → Prop := fun x vs H Q => ∃ d b xs zs, x = .ref d ∧ vs = [.ref b] ∧ d ≠ b ∧ H d = some (.dK xs) ∧ H b = some (.dK zs) ∧ xs.length + zs.length ≤ sizeLine ∧ Q .non (upd H d (.dK (mergeK xs zs)))
theorem mt_update {X : Cx} : MtM X "dict.update" rUpdate := by
  intro pins s σ H x vs v us Q I rx rv h
  obtain ⟨d, b, xs, zs, rfl, rfl, hne, hd, hb, hz, q⟩ := h
  cases rx
  obtain ⟨u, rfl, ru⟩ := rv.one
  cases ru
  obtain ⟨z, lo, us, rel, dd⟩ := dk_of I.hok hd
  obtain ⟨z2, lo2, us2, rel2, dd2⟩ := dk_of I.hok hb
  refine call_meetsIn PySem.F.slot_dict_update dd.typeIs PySem.F.entry_dict_update (PySem.F.args_dict_update_2 _ _) (meets_dict_update (mixKind X.prog X.w) d b hne lo2)
    ⟨us, us2, dd, dd2, by rw [← rel.length, ← rel2.length]; exact hz, fun h' dd' _ hs => ⟨.non, _, ?_, rfl, q⟩⟩
  have he : ∃ q, h'.get? d = some q := let ⟨q, _, _, hq, _⟩ := dd'; ⟨q, hq⟩
  exact d_write (t' := s.toks) I (by rw [hd]; exact True.intro) hs he (dk_new (Nat.le_trans (length_mergeK _ _) hz) lo (rel2.merge rel) dd')
/-- sorted(d) of a dict, all its keys ints -/
theorem call_sortedDA {X : Cx} (hcalm : X.calm = true) : CallR X (.builtin "sorted") (fun xs H Q => ∃ (a : Addr) (kvs : List (Key × V)) (ks : List Int), xs = [.ref a] ∧ Rd H a (.dK kvs) ∧ kvs.map (·.1) = ks.map Sum.inl ∧
    ∀ (ys : List Int) (p : Addr), ys.Perm ks → ys.Pairwise (· ≤ ·) → H p = none → Q (.ref p) (upd H p (.lst (ys.map V.int)))) := by
  intro pins s σ H xs us Q I r q
  obtain ⟨a, kvs, ks, ex, hd, hks, q⟩ := q
  subst ex
  obtain ⟨u, eu, rx⟩ := vals1 r
  subst eu
  cases rx
  obtain ⟨z, lo, vs, rel, dd⟩ := dk_rd I.hok hd
  obtain ⟨ep, hat⟩ := dd.dictAt
  have hkeys : vs.map (·.1) = ks.map Sum.inl := rel.keys.symm.trans hks
  have hl : vs.length = ks.length := by
    have e := congrArg List.length hkeys
    rw [List.length_map, List.length_map] at e
    exact e
  have h16 : vs.length ≤ sizeLine := by rw [← rel.length]; exact z
  refine Calls.call_function_entry PyProof.Rows.kind_sorted PyProof.Rows.plain_sorted PyProof.Rows.entry_sorted (PyProof.Rows.args_sorted1 _) ?_
  unfold Builtin.«sorted»
  refine wpAny_bind (m := checkCount "sorted" 1 1 _) (wpAny_pure ?_)
  refine wpAny_bind (PySem.W.kdu_collect (A := X.A.in1) (PySem.W.kdl_dict (knd := mixKind X.prog X.w) (kvs := vs) (ep := ep) lo) (I.ok.hd hcalm) hat h16 fun h' tk acc hk hacc => ?_)
  have hal : acc.toList.length = ks.length := by rw [Array.length_toList, hacc.1, hl]
  have hS : IntsAre acc.toList ks := ints_each hal fun j v e => by
    obtain ⟨k, x, e1, e2⟩ := hacc.2 j v (by rw [← Array.getElem?_toList]; exact e)
    have e3 : (vs.map (·.1))[j]? = some k := by rw [List.getElem?_map, e1]; rfl
    rw [hkeys, List.getElem?_map] at e3
    cases e4 : ks[j]? with
    | none => rw [e4] at e3; cases e3
    | some y =>
      rw [e4] at e3
      have e5 : Sum.inl y = k := Option.some.inj e3
      subst e5
      rcases keyIs_shape (show keyIs (Sum.inl y) v = true from e2) with ⟨i, t, ek, ev⟩ | ⟨z, t, ek, ev⟩
      · cases ek
        exact ⟨y, t, rfl, ev⟩
      · cases ek
  have I1 : Inv X pins σ H { s with heap := h', toks := tk } := I.kept hk
  have hsz : acc.toList.length ≤ sizeLine := by rw [hal, ← hl]; exact h16
  refine wpAny_bind (wpAny_newList ?_ hsz)
  have hoL : (h'.push (seqObj "list" acc.toList.toArray 0)).get? h'.objs.size = some (seqObj "list" acc.toList.toArray 0) := Heap.get?_push_size _ rfl
  show wpAny _ _ _ _ _ { s with heap := h'.push (seqObj "list" acc.toList.toArray 0), toks := tk }
  refine wpAny_bind (wpAny_holding (wpAny_call_entry PyProof.Rows.slot_list_sort ⟨_, hoL, rfl⟩ PyProof.Rows.entry_list_sort
    (SrtO.list_sort_ord (s := { s with heap := h'.push (seqObj "list" acc.toList.toArray 0), toks := tk }) SrtO.swo_int hoL hsz (fun h2 => SrtO.ints_sortable hS h2) fun out h1 h2 => ⟨_, rfl, ?_⟩) (PyProof.Rows.args_list_sort _)))
  obtain ⟨k1, k2, k3⟩ := SrtO.ints_out hS h1 h2
  obtain ⟨e', he'⟩ := PyProof.Rows.sortedHeap_at (vs := acc.toList) (out := out.toArray) hoL
  have hlen : ((out.map SrtO.iv).map V.int).length ≤ sizeLine := by
    rw [List.length_map, k2.length_eq, ← hl]
    exact h16
  refine wpAny_pure ⟨_, rfl, .ref h'.objs.size, upd H h'.objs.size (.lst ((out.map SrtO.iv).map V.int)), I1.laid (t' := tk) (fun b u e => ?_) (Nat.le_refl _)
    (show ObjOk X.prog X.w _ _ _ (.lst ((out.map SrtO.iv).map V.int)) from ⟨hlen, out, e', vals_of_ints k1, he'⟩), rfl, q _ _ k2 k3 (I1.hok.fresh (Nat.le_refl _))⟩
  have hb : b < h'.objs.size := Heap.lt_size e
  rw [PyProof.Rows.sortedHeap_old (Nat.ne_of_lt hb) (by rw [size_push']; exact Nat.lt_succ_of_lt hb)]
  exact Heap.get?_push_of_some _ e
/-- a built-in's call in an except suite: isinstance of what is held -/
def rIsEA (K : PySem.W.Frag) (a : Addr) (cls : Value) (d : Option Addr) : List V → Hp → VK → Prop := fun xs H Q => ∃ D, cls = .ref D ∧ d = none ∧ ExcC K D ∧ rIsE K D a xs H Q
theorem call_isEA {X : Cx} {K : PySem.W.Frag} {a : Addr} {cls : Value} {d : Option Addr} {oe : Obj} {pn : List (Addr × Obj)} (hK : X.K = K) (hz : Zc cls d oe) (hf : ∃ vs, oe.data = .fields vs) :
    CallR (X.suite a ((a, oe) :: pn)) (.builtin "isinstance") (rIsEA K a cls d) := by
  subst hK
  intro pins s σ H xs us Q I r h
  obtain ⟨D, rfl, rfl, C, h⟩ := h
  exact call_isE C hz hf pins s σ H xs us Q I r h
/-- o.m(..) that may raise, what is raised wished for at the caller's slots -/
def tMethAt (C : Addr) (m : Str) (sp : Sp) (E : L2.St → XK) (ta : TE) (t : TA) : TE := fun σ H Q => ta σ H fun x H1 => ∃ a dx fs, x = .ref a ∧ H1 a = some (.ins C dx fs) ∧ fs.lookup m = none ∧ t σ H1 fun vs H2 => sp (x :: vs) H2 Q (E σ)
section
variable {X : Cx} {CX : CXT} {k : Nat} {f C : Addr} {fd : FuncData} {ps : List Str} {sp : Sp} {E : L2.St → XK} {x m : Str} {p pos apos : Pos} {e o : Expr} {es : List Expr} {ta : TE} {t : TA}
theorem pe_methAt0 {pl : Sem Bool} (he : PE X o ta) (c : Cls X.K C) (hm : Meth X.K C m f) (F : FnOk X.prog X.w X.K X.mg X.base CX k f fd ps sp) (hr : Room k X.A) (hb : Binds X.K fd ps []) (hx : ∀ σ, PassesAt CX X σ (E σ))
    (ht : eval (.Call (.Attribute o m apos) [] [] pos) X.env = (do
      let ov ← eval o X.env
      standAt apos.atName
      let (f, first) ← holding [ov] (getMethod ov m pl)
      callWith pos f first (backTo pos (starEach [] X.env)) (backToKw pos (keywordEach [] X.env))) := by rfl) :
    PE X (.Call (.Attribute o m apos) [] [] pos) (tMethAt C m sp E ta tNil) := by
  refine ⟨fun pins s σ H Q I h => ?_⟩
  refine PySem.W.methodCall_KW (pl := pl) (thn (he.run pins s σ H _ I h) fun u s1 ⟨x, H1, I1, rx, a, dx, fs, ex, ea, l, q⟩ => ?_) ht
  subst ex
  obtain rfl : u = Value.ref a := rx
  refine getmeth_ok I1 ea c hm l ?_
  exact PySem.W.callWith_K0 (first := [.ref a]) I1.kIn hm.kp (run_fnS (us := [.ref a]) (vs := [.ref a]) F hr hb (hx σ) I1 (.cons rfl .nil) q)
theorem pe_methAt {pl : Sem Bool} (he : PE X o ta) (c : Cls X.K C) (hm : Meth X.K C m f) (F : FnOk X.prog X.w X.K X.mg X.base CX k f fd ps sp) (hr : Room k X.A) (hb : Binds X.K fd ps []) (hx : ∀ σ, PassesAt CX X σ (E σ)) (ha : PA X (e :: es) t)
    (hst : starEach (e :: es) X.env = (false, eval e X.env) :: starEach es X.env := by rfl) (hpl : (backTo pos (starEach es X.env)).any (·.1) = false := by rfl)
    (ht : eval (.Call (.Attribute o m apos) (e :: es) [] pos) X.env = (do
      let ov ← eval o X.env
      standAt apos.atName
      let (f, first) ← holding [ov] (getMethod ov m pl)
      callWith pos f first (backTo pos (starEach (e :: es) X.env)) (backToKw pos (keywordEach [] X.env))) := by rfl) :
    PE X (.Call (.Attribute o m apos) (e :: es) [] pos) (tMethAt C m sp E ta t) := by
  refine ⟨fun pins s σ H Q I h => ?_⟩
  refine PySem.W.methodCall_KW (pl := pl) (thn (he.run pins s σ H _ I h) fun u s1 ⟨x, H1, I1, rx, a, dx, fs, ex, ea, l, q⟩ => ?_) ht
  subst ex
  obtain rfl : u = Value.ref a := rx
  refine getmeth_ok I1 ea c hm l ?_
  refine PySem.W.callWith_K (first := [.ref a]) (h₀ := X.base) I.ok.mod.kin hm.kp (thn (ha.run pos pins s1 σ H1 _ I1 q) fun us s2 ⟨vs, H2, I2, r, q2⟩ => ⟨I2.kIn, ?_⟩) hst hpl
  exact run_fnS (us := .ref a :: us) (vs := .ref a :: vs) F hr hb (hx σ) I2 (.cons rfl r) q2
end
/-- C() of a class without __init__ -/
structure Mn (K : PySem.W.Frag) (C : Addr) : Prop where
  makes : PySem.W.makesIn K C = true
  init : PySem.W.findIn K (.ref C) "__init__" = some (some (.builtin "object.__init__"))
  kp : PySem.W.keepIn K (.ref C) = true
def tMakeN (C : Addr) : TE := fun _ H Q => ∀ x dx, H x = none → H dx = none → dx ≠ x → Q (.ref x) (upd (upd H dx (.own x)) x (.ins C dx []))
theorem pe_makeN0 {X : Cx} {C : Addr} {x : Str} {p pos : Pos} (M : Mn X.K C) (hg : Gl X x) (hm : X.mg x = some (.ref C)) (hdb : (x == ("__debug__" : Str)) = false := by decide) : PE X (.Call (.Name x p) [] [] pos) (tMakeN C) := by
  refine ⟨fun pins s σ H Q I h => ?_⟩
  refine wpAny_Call_Name_kw (ld_glob I hg hm ?_ hdb)
  refine PySem.W.callWith_K0 I.kIn M.kp (wpAny_call ?_)
  have hq := h (s.heap.objs.size + 1) s.heap.objs.size (I.hok.fresh (Nat.le_succ _)) (I.hok.fresh (Nat.le_refl _)) (Nat.ne_of_lt (Nat.lt_succ_self _))
  have I2 := Inv.made (C := C) I
  refine make_map0 I.kIn M.makes M.init (fun self => PySem.W.Looks.of_pure (PySem.W.oi_bind self)) ?_
  have Y := PySem.W.makes_of (M := model X.prog X.w) I.kIn M.makes
  have e1 : (s.heap.push PySem.W.emptyDict).get? s.heap.objs.size = some PySem.W.emptyDict := Heap.get?_push_size s.heap rfl
  have e2 : ((s.heap.push PySem.W.emptyDict).push (PySem.W.instObj C s.heap.objs.size)).get? (s.heap.objs.size + 1) = some (PySem.W.instObj C s.heap.objs.size) := by
    have := Heap.get?_push_size (s.heap.push PySem.W.emptyDict) (o := PySem.W.instObj C s.heap.objs.size) rfl
    rwa [Heap.size_push] at this
  have t1 : PySem.W.Looks (model X.prog X.w) ((s.heap.push PySem.W.emptyDict).push (PySem.W.instObj C s.heap.objs.size)) (typeOf (.ref (s.heap.objs.size + 1))) (.ref C) := (PySem.W.Looks.ld e2).andThen .now
  have t2 : PySem.W.Looks (model X.prog X.w) ((s.heap.push PySem.W.emptyDict).push (PySem.W.instObj C s.heap.objs.size)) (isInstance (.ref (s.heap.objs.size + 1)) (.type "object")) true :=
    t1.andThen (Y.top.keeps fun b o e => Heap.get?_push_of_some _ (Heap.get?_push_of_some _ e))
  refine codeAny_call_builtin PySem.W.oi_plain PySem.W.entry_oi (@PySem.W.check_slot (model X.prog X.w) _ _ _ "object.__init__" "object" "__init__" (.ref (s.heap.objs.size + 1)) [] [] _ PySem.W.oi_kind PySem.W.oi_split t2 (PySem.W.oi_args (.ref (s.heap.objs.size + 1))) ?_)
  rw [PySem.W.oi_run]
  exact wpAny_pure (And.intro rfl ⟨V.ref (s.heap.objs.size + 1), _, I2, rfl, hq⟩)
/-! enumerate(tuple) -/
def IteT (K : PySem.W.Frag) (a : Addr) : It :=
  ⟨fun i H => ∃ (xs : List V) (x : V), SqT K H a xs ∧ xs[i]? = some x, fun i H v H' => ∃ T x, v = .ref T ∧ H T = none ∧ H' = upd H T (.tup [.int (i : Nat), x]) ∧ ∀ xs, SqT K H a xs → xs[i]? = some x, fun i H => ∃ xs : List V, SqT K H a xs ∧ xs.length ≤ i⟩
theorem turn_enumT {P : Program} {w : World} {K : PySem.W.Frag} {elts : List Expr} {kk : Nat} {tpos : Pos} (a e it : Addr) :
    Turn P w K (.Tuple elts kk tpos) (IteT K a) [e, it] e (fun i h => (∃ old, IsEnum h e it ((i : Nat) : Int) old) ∧ h.IsTupleIter it a i ∧ e ≠ it) where
  mem := by simp
  obj := fun i h st b hb => by
    obtain ⟨⟨old, he⟩, ⟨o, ho, hc, hd⟩, _⟩ := st
    have e' : b = e ∨ b = it := by simpa using hb
    rcases e' with z | z
    · rw [z]; exact ⟨_, he, fun v q => nomatch q⟩
    · rw [z]; exact ⟨o, ho, fun v q => by rw [hd] at q; cases q⟩
  keep := fun i h h' st k => let ⟨⟨old, he⟩, hi, hne⟩ := st; ⟨⟨old, k e (by simp) _ he⟩, hi.at fun o q => k it (by simp) o q, hne⟩
  item := by
    intro X hP hw hK hc i pins s σ H E I hf st hg
    subst hP hw hK
    obtain ⟨⟨old, he⟩, hit, hne⟩ := st
    obtain ⟨xs, x, hq, hx⟩ := hg
    obtain ⟨its, rv, p, hz⟩ := I.tuple hq
    have p' : s.heap.IsTuple a its.toArray := p
    obtain ⟨u, hu, ru⟩ := rv.get hx
    have hel : e < s.heap.objs.size := Heap.lt_size he
    have hil : it < s.heap.objs.size := by obtain ⟨_, q, _⟩ := hit; exact Heap.lt_size q
    have hai : a ≠ it := by
      rintro rfl
      obtain ⟨o1, h1, _, h2⟩ := hit
      obtain ⟨o2, h3, _, n, h4⟩ := p'
      rw [h1] at h3
      cases h3
      rw [h2] at h4
      cases h4
    have hae : e ≠ a := by
      rintro rfl
      obtain ⟨o2, h3, _, n, h4⟩ := p'
      have h1 : s.heap.get? e = some _ := he
      rw [h1] at h3
      cases h3
      cases h4
    have hil2 := (List.getElem?_eq_some_iff.mp (show its[i]? = some u by simpa using hu)).1
    refine wpAny_pyNext_enum_itemD (Draws.tuple (A := X.A.in1) (I.ok.hd hc) it a hai its.toArray) he ⟨hit, p'⟩ (by simpa using hil2) hne (by simp [hne, hae]) fun x2 h' tk hP ho st' hT hsz hk => ?_
    have ex : x2 = u := by
      have h1 : its.toArray[i]? = some x2 := hP
      have h2 : its.toArray[i]? = some u := by simpa using hu
      rw [h1] at h2
      exact Option.some.inj h2
    subst ex
    refine ⟨_, rfl, wpAny_letOwnedTupleGo_enum (s := { s with heap := h', toks := tk + 1 }) ho fun h'' he' sb => ?_⟩
    have hT2 : h''.get? s.heap.objs.size = some { cls := .type "tuple", data := .seq #[.int i tk, x2] } := (sb.2 _ (Nat.ne_of_gt hel)).trans hT
    have new : ObjOk X.prog X.w (upd H s.heap.objs.size (.tup [.int (i : Nat), x])) h'' s.heap.objs.size (.tup [.int (i : Nat), x]) :=
      ⟨by show 2 ≤ sizeLine; decide, [.int i tk, x2], .cons ⟨_, rfl⟩ (.cons ru .nil), ⟨_, hT2, rfl, _, rfl⟩⟩
    have I1 : Inv X pins σ (upd H s.heap.objs.size (.tup [.int (i : Nat), x])) { s with heap := h'', toks := tk + 1 } :=
      I.turnedNew (ch := [e, it]) (fun b ob hb q => (sb.2 b (fun z => hb (by simp [z]))).trans (hk b ob (fun z => hb (by simp [z])) (fun z => hb (by simp [z])) q)) hf (Nat.le_refl _) new
    refine ⟨.ref s.heap.objs.size, _, I1, rfl, ⟨_, x, rfl, I.hok.fresh (Nat.le_refl _), rfl, fun ys hy => by rw [I.tuple_inj hy hq]; exact hx⟩, ⟨⟨x2, ?_⟩, st'.1.at fun o q => (sb.2 it (Ne.symm hne)).trans q, hne⟩, fun b hb => ?_⟩
    · have e1 : ((i + 1 : Nat) : Int) = (i : Int) + 1 := by omega
      rw [e1]; exact he'
    · have hb' : b < s.heap.objs.size := by
        have e' : b = e ∨ b = it := by simpa using hb
        rcases e' with z | z
        · rw [z]; exact hel
        · rw [z]; exact hil
      rw [upd_ne (Nat.ne_of_lt hb')]
      exact (hf b hb).1
  done := by
    intro X hP hw hK hc i pins s σ H E I hf st hg
    subst hP hw hK
    obtain ⟨⟨old, he⟩, hit, hne⟩ := st
    obtain ⟨xs, hq, hx⟩ := hg
    obtain ⟨its, rv, p, hz⟩ := I.tuple hq
    have p' : s.heap.IsTuple a its.toArray := p
    obtain ⟨f0, f1, f2, f3, f4, f5⟩ := hf it (by simp)
    have hl := rv.length
    have hT : s.TypeIs (.ref e) "enumerate" := ⟨_, he, rfl⟩
    unfold pyNext
    refine wpAny_bind (wpAny_attempt (wpAny_callSpecial?_slot (name := Str.ofString "__next__") hT PySem.F.slot_enumerate_next
      (wpAny_call_entry PySem.F.slot_enumerate_next hT PySem.F.entry_enumerate_next ?_ (PySem.F.args_enumerate_next_1 _))))
    show wpAny _ _ (field (.ref e) 2 >>= _) _ _ _
    refine wpAny_bind (wpAny_field he rfl (x := .ref it) rfl ?_)
    refine wpAny_bind (wpAny_nextOf_tuple_end (I.ok.hd hc) hit p' (by simp; omega) fun h' x eb hx' => ?_)
    obtain ⟨o, ho, hcl⟩ := hx'
    refine wpAny_bind (wpAny_isInstance (T := "StopIteration") (b := true) ⟨o, ho, hcl⟩ isSubtype_stop ?_)
    exact wpAny_pure ⟨rfl, I.turned (t' := s.toks) (fun b o hb q => eb b o hb q) f0 f1 f3 f4 f5⟩
  self := fun A i s Q E st h => let ⟨⟨_, he⟩, _⟩ := st; wpAny_pyIter_enum he h
theorem call_enumerate_tuple {prog : Program} {w : World} {A : Around} {E : Value → Shared → Prop} {s : Shared} {l : Addr} {items : Array Value} {Q : Value → Shared → Prop} (hL : s.heap.IsTuple l items)
    (h : ∀ h', IsEnum h' (s.heap.objs.size + 1) s.heap.objs.size 0 .none → h'.IsTupleIter s.heap.objs.size l 0 → h'.objs.size = s.heap.objs.size + 2 →
      (∀ b o, s.heap.get? b = some o → h'.get? b = some o) → Q (.ref (s.heap.objs.size + 1)) { s with heap := h' }) :
    wpAny (model prog w) A (call (.type "enumerate") [.ref l]) Q E s := by
  refine callType_new PySem.F.called_enumerate (by decide) (PySem.F.typeCall_enumerate_1 _) (PySem.F.newCall_enumerate_1 _) (fun obj => PySem.F.args_object_init_2 obj _) PySem.F.entry_enumerate_new
    (S := fun _ R s => s.heap.IsTuple l items ∧ R (.ok (.ret (.ref (s.heap.push { cls := .type "tuple_iterator", data := .fields #[.ref l, .int 0 0] }).objs.size)))
        { s with heap := (s.heap.push { cls := .type "tuple_iterator", data := .fields #[.ref l, .int 0 0] }).push { cls := .type "enumerate", data := .fields #[.none, .bool false, .ref s.heap.objs.size, rawInt 0, .none, .none] } }) ?_ ⟨hL, ?_⟩
  · refine .of_wp fun prog w A R s h => ?_
    obtain ⟨hp, g, d, tk, os⟩ := s
    obtain ⟨hl, h⟩ := h
    have hsub := sub_enumerate
    wp_walk using wpAny_pyIter_tuple hl
    refine wpAny_stack_any fun st => wpAny_pure ?_
    split
    · rename_i c _ _ _ _ _
      cases (c == Value.type "enumerate")
      · wp_walk using wpAny_pyIter_tuple hl
        exact ⟨_, rfl, h⟩
      · wp_walk using wpAny_pyIter_tuple hl
        exact ⟨_, rfl, h⟩
    · wp_walk using wpAny_pyIter_tuple hl
      exact ⟨_, rfl, h⟩
  have hz : (s.heap.push { cls := .type "tuple_iterator", data := .fields #[.ref l, .int 0 0] }).objs.size = s.heap.objs.size + 1 := Heap.size_push ..
  show _ ∧ _
  rw [hz]
  have he : IsEnum ((s.heap.push { cls := .type "tuple_iterator", data := .fields #[.ref l, .int 0 0] }).push
      { cls := .type "enumerate", data := .fields #[.none, .bool false, .ref s.heap.objs.size, rawInt 0, .none, .none] }) (s.heap.objs.size + 1) s.heap.objs.size 0 .none := by
    have := Heap.get?_push_size (s.heap.push { cls := .type "tuple_iterator", data := .fields #[.ref l, .int 0 0] })
      (o := { cls := .type "enumerate", data := .fields #[.none, .bool false, .ref s.heap.objs.size, rawInt 0, .none, .none] }) rfl
    rw [hz] at this; exact this
  refine ⟨⟨_, he, rfl⟩, h _ he ⟨_, Heap.get?_push_of_some _ (Heap.get?_push_size _ rfl), rfl, rfl⟩ (by rw [Heap.size_push, hz]) fun b o x => Heap.get?_push_of_some _ (Heap.get?_push_of_some _ x)⟩
def iEnumT (K : PySem.W.Frag) (ta : TA) : TI := fun σ H R => ta σ H fun vs H1 => ∃ a xs, vs = [.ref a] ∧ SqT K H1 a xs ∧ R (IteT K a) H1
theorem pi_enumT {X : Cx} {K : PySem.W.Frag} {e : Expr} {ta : TA} {p pos tpos : Pos} {elts : List Expr} {kk : Nat} (hK : X.K = K) (hg : Gl X "enumerate") (hm : X.mg "enumerate" = none) (ha : PA X [e] ta) (hs : starEach [e] X.env = [(false, eval e X.env)] := by rfl) :
    PI X (.Tuple elts kk tpos) (.Call (.Name "enumerate" p) [e] [] pos) (iEnumT K ta) := by
  subst hK
  refine ⟨fun pins s σ H R I h => ?_⟩
  refine Call_ (ld_blt I hg hm boot_enumerate (PyProof.Rows.callWith_type1 (thn (ha.run pos pins s σ H _ I h) fun us s1 ⟨vs, H1, I1, r1, q1⟩ => ?_) hs rfl))
  obtain ⟨a, xs, ex, hq, q⟩ := q1
  subst ex
  cases r1 with
  | cons r rr =>
    cases rr
    cases r
    obtain ⟨its, rv, p', hz⟩ := I1.tuple hq
    refine call_enumerate_tuple (items := its.toArray) p' fun h' he hit hsz hk => wpAny_pyIter_enum he ?_
    have I2 : Inv X pins σ H1 { s1 with heap := h' } := I1.kept (t' := s1.toks) hk
    refine ⟨s1.heap.objs.size + 1, [s1.heap.objs.size + 1, s1.heap.objs.size], _, _, H1, rfl, I2, turn_enumT a (s1.heap.objs.size + 1) s1.heap.objs.size, ⟨⟨.none, he⟩, hit, Nat.succ_ne_self _⟩, fun b hb => ?_, q⟩
    have e' : b = s1.heap.objs.size + 1 ∨ b = s1.heap.objs.size := by simpa using hb
    have hle : s1.heap.objs.size ≤ b := by
      rcases e' with z | z
      · rw [z]; exact Nat.le_add_right _ _
      · rw [z]; exact Nat.le_refl _
    exact I1.fpOk hle (I1.hok.fresh hle)
end
def top (i : Nat) : Stmt := PySem.Challenge.pw_holders_k52_numbers.main.body.getD i (.Pass ⟨0, 0, 0, 0⟩)
abbrev s_SetRow_init : Stmt := inClass (top 4) 0
abbrev s_AskRow_init : Stmt := inClass (top 19) 0
abbrev s_TellRow_init : Stmt := inClass (top 20) 0
abbrev s_IfRow_init : Stmt := inClass (top 21) 0
abbrev s_WhileRow_init : Stmt := inClass (top 22) 0
abbrev s_Helper_init : Stmt := inClass (top 40) 0
abbrev s_Program_init : Stmt := inClass (top 41) 0
abbrev s_Teller_init : Stmt := inClass (top 34) 0
abbrev s_World_init : Stmt := inClass (top 28) 0
abbrev s_rows_of : Stmt := top 23
abbrev s_block_of : Stmt := top 24
abbrev s_row_of : Stmt := top 26
abbrev s_Over_init : Stmt := inClass (top 31) 0
abbrev s_reckoned : Stmt := top 32
abbrev s_Teller_ticked : Stmt := inClass (top 34) 1
abbrev s_Teller_worth : Stmt := inClass (top 34) 2
abbrev s_Teller_numbered : Stmt := inClass (top 34) 12
abbrev s_Teller_blocked : Stmt := inClass (top 34) 13
abbrev s_Teller_done : Stmt := inClass (top 34) 14
abbrev s_Teller_went : Stmt := inClass (top 34) 15
abbrev s_Teller_ran : Stmt := inClass (top 34) 16
abbrev s_World_many : Stmt := inClass (top 28) 4
abbrev s_run_of : Stmt := top 35
abbrev s_told_of : Stmt := top 36
abbrev s_world_of : Stmt := top 37
abbrev s_l_draw : Stmt := top 43
abbrev s_l_pick : Stmt := top 44
abbrev s_l_made : Stmt := top 45
abbrev s_l_alike : Stmt := top 46
abbrev s_l_atom : Stmt := top 47
abbrev s_l_rows : Stmt := top 48
abbrev s_l_value : Stmt := top 49
abbrev s_l_number : Stmt := top 50
abbrev s_l_walk : Stmt := top 51
abbrev s_law : Stmt := top 52
theorem sc_SetRow_init : FnScope ["self", "name", "one", "sign", "other"] ["self", "name", "one", "sign", "other"] (defScope s_SetRow_init) := ⟨rfl, rfl, rfl, by decide +kernel, rfl, by decide +kernel, by decide +kernel⟩
theorem sc_AskRow_init : FnScope ["self", "name"] ["self", "name"] (defScope s_AskRow_init) := ⟨rfl, rfl, rfl, by decide +kernel, rfl, by decide +kernel, by decide +kernel⟩
theorem sc_TellRow_init : FnScope ["self", "atom"] ["self", "atom"] (defScope s_TellRow_init) := ⟨rfl, rfl, rfl, by decide +kernel, rfl, by decide +kernel, by decide +kernel⟩
theorem sc_IfRow_init : FnScope ["self", "atom", "rows", "others"] ["self", "atom", "rows", "others"] (defScope s_IfRow_init) := ⟨rfl, rfl, rfl, by decide +kernel, rfl, by decide +kernel, by decide +kernel⟩
theorem sc_WhileRow_init : FnScope ["self", "atom", "rows"] ["self", "atom", "rows"] (defScope s_WhileRow_init) := ⟨rfl, rfl, rfl, by decide +kernel, rfl, by decide +kernel, by decide +kernel⟩
theorem sc_Helper_init : FnScope ["self", "name", "params", "gives", "rows"] ["self", "name", "params", "gives", "rows"] (defScope s_Helper_init) := ⟨rfl, rfl, rfl, by decide +kernel, rfl, by decide +kernel, by decide +kernel⟩
theorem sc_Program_init : FnScope ["self", "records", "helpers"] ["self", "records", "helpers"] (defScope s_Program_init) := ⟨rfl, rfl, rfl, by decide +kernel, rfl, by decide +kernel, by decide +kernel⟩
theorem sc_Teller_init : FnScope ["self", "program", "inputs", "ticks", "helper", "record"] ["self", "program", "inputs", "ticks"] (defScope s_Teller_init) := ⟨rfl, rfl, rfl, by decide +kernel, rfl, by decide +kernel, by decide +kernel⟩
theorem sc_World_init : FnScope ["self"] ["self"] (defScope s_World_init) := ⟨rfl, rfl, rfl, by decide +kernel, rfl, by decide +kernel, by decide +kernel⟩
theorem sc_rows_of : FnScope ["some", "told"] ["some"] (defScope s_rows_of) := ⟨rfl, rfl, rfl, by decide +kernel, rfl, by decide +kernel, by decide +kernel⟩
theorem sc_block_of : FnScope ["told"] ["told"] (defScope s_block_of) := ⟨rfl, rfl, rfl, by decide +kernel, rfl, by decide +kernel, by decide +kernel⟩
theorem sc_row_of : FnScope ["told", "word"] ["told"] (defScope s_row_of) := ⟨rfl, rfl, rfl, by decide +kernel, rfl, by decide +kernel, by decide +kernel⟩
theorem sc_Over_init : FnScope ["self", "how"] ["self", "how"] (defScope s_Over_init) := ⟨rfl, rfl, rfl, by decide +kernel, rfl, by decide +kernel, by decide +kernel⟩
theorem sc_reckoned : FnScope ["one", "sign", "other"] ["one", "sign", "other"] (defScope s_reckoned) := ⟨rfl, rfl, rfl, by decide +kernel, rfl, by decide +kernel, by decide +kernel⟩
theorem sc_Teller_ticked : FnScope ["self"] ["self"] (defScope s_Teller_ticked) := ⟨rfl, rfl, rfl, by decide +kernel, rfl, by decide +kernel, by decide +kernel⟩
theorem sc_Teller_worth : FnScope ["self", "frame", "atom"] ["self", "frame", "atom"] (defScope s_Teller_worth) := ⟨rfl, rfl, rfl, by decide +kernel, rfl, by decide +kernel, by decide +kernel⟩
theorem sc_Teller_numbered : FnScope ["self", "frame", "row", "one", "number"] ["self", "frame", "row"] (defScope s_Teller_numbered) := ⟨rfl, rfl, rfl, by decide +kernel, rfl, by decide +kernel, by decide +kernel⟩
theorem sc_Teller_blocked : FnScope ["self", "frame", "row"] ["self", "frame", "row"] (defScope s_Teller_blocked) := ⟨rfl, rfl, rfl, by decide +kernel, rfl, by decide +kernel, by decide +kernel⟩
theorem sc_Teller_done : FnScope ["self", "frame", "row"] ["self", "frame", "row"] (defScope s_Teller_done) := ⟨rfl, rfl, rfl, by decide +kernel, rfl, by decide +kernel, by decide +kernel⟩
theorem sc_Teller_went : FnScope ["self", "frame", "rows", "row"] ["self", "frame", "rows"] (defScope s_Teller_went) := ⟨rfl, rfl, rfl, by decide +kernel, rfl, by decide +kernel, by decide +kernel⟩
theorem sc_Teller_ran : FnScope ["self", "helper", "frame", "last"] ["self", "helper", "frame"] (defScope s_Teller_ran) := ⟨rfl, rfl, rfl, by decide +kernel, rfl, by decide +kernel, by decide +kernel⟩
theorem sc_World_many : FnScope ["self"] ["self"] (defScope s_World_many) := ⟨rfl, rfl, rfl, by decide +kernel, rfl, by decide +kernel, by decide +kernel⟩
theorem sc_run_of : FnScope ["program", "inputs", "ticks", "teller", "e"] ["program", "inputs", "ticks"] (defScope s_run_of) := ⟨rfl, rfl, rfl, by decide +kernel, rfl, by decide +kernel, by decide +kernel⟩
theorem sc_told_of : FnScope ["program", "inputs", "ticks", "teller", "how"] ["program", "inputs", "ticks"] (defScope s_told_of) := ⟨rfl, rfl, rfl, by decide +kernel, rfl, by decide +kernel, by decide +kernel⟩
theorem sc_world_of : FnScope ["program", "inputs", "ticks"] ["program", "inputs", "ticks"] (defScope s_world_of) := ⟨rfl, rfl, rfl, by decide +kernel, rfl, by decide +kernel, by decide +kernel⟩
theorem sc_l_draw : FnScope ["_law_script", "_law_tape", "_law_many", "_law_k", "_law_cell", "_law_one", "_law_two"] ["_law_script", "_law_tape", "_law_many"] (defScope s_l_draw) := ⟨rfl, rfl, rfl, by decide +kernel, rfl, by decide +kernel, by decide +kernel⟩
theorem sc_l_pick : FnScope ["_law_script", "_law_tape", "_law_some"] ["_law_script", "_law_tape", "_law_some"] (defScope s_l_pick) := ⟨rfl, rfl, rfl, by decide +kernel, rfl, by decide +kernel, by decide +kernel⟩
theorem sc_l_made : FnScope ["_law_told", "_law_one", "_law_records", "_law_helpers", "_law_rows_here", "_law_row"] ["_law_told"] (defScope s_l_made) := ⟨rfl, rfl, rfl, by decide +kernel, rfl, by decide +kernel, by decide +kernel⟩
theorem sc_l_alike : FnScope ["_law_found", "_law_due", "_law_one", "_law_other"] ["_law_found", "_law_due"] (defScope s_l_alike) := ⟨rfl, rfl, rfl, by decide +kernel, rfl, by decide +kernel, by decide +kernel⟩
theorem sc_l_atom : FnScope ["_law_script", "_law_tape", "_law_some"] ["_law_script", "_law_tape"] (defScope s_l_atom) := ⟨rfl, rfl, rfl, by decide +kernel, rfl, by decide +kernel, by decide +kernel⟩
theorem sc_l_rows : FnScope ["_law_script", "_law_tape", "_law_deep", "_law_most", "_law_found", "_law_turn", "_law_way", "_law_one", "_law_name", "_law_sign", "_law_rows_here"] ["_law_script", "_law_tape", "_law_deep", "_law_most"] (defScope s_l_rows) := ⟨rfl, rfl, rfl, by decide +kernel, rfl, by decide +kernel, by decide +kernel⟩
theorem sc_l_value : FnScope ["_law_env", "_law_atom_here"] ["_law_env", "_law_atom_here"] (defScope s_l_value) := ⟨rfl, rfl, rfl, by decide +kernel, rfl, by decide +kernel, by decide +kernel⟩
theorem sc_l_number : FnScope ["_law_run", "_law_env", "_law_told", "_law_one", "_law_other", "_law_some"] ["_law_run", "_law_env", "_law_told"] (defScope s_l_number) := ⟨rfl, rfl, rfl, by decide +kernel, rfl, by decide +kernel, by decide +kernel⟩
theorem sc_l_walk : FnScope ["_law_run", "_law_env", "_law_rows_here", "_law_told", "_law_again"] ["_law_run", "_law_env", "_law_rows_here"] (defScope s_l_walk) := ⟨rfl, rfl, rfl, by decide +kernel, rfl, by decide +kernel, by decide +kernel⟩
theorem sc_law : FnScope ["_law_script", "_law_tape", "_law_rows_here", "_law_inner", "_law_told", "_law_inputs", "_law_ticks", "_law_run", "_law_due", "_law_program", "_law_turn", "_law_found", "_law_k", "_law_one"] ["_law_script"] (defScope s_law) := ⟨rfl, rfl, rfl, by decide +kernel, rfl, by decide +kernel, by decide +kernel⟩
structure Tx (K : PySem.W.Frag) (mg : Str → Option Value) where
  n_tuple : mg "tuple" = none
  n_list : mg "list" = none
  n_Exception : mg "Exception" = none
  n_int : mg "int" = none
  n_isinstance : mg "isinstance" = none
  n_len : mg "len" = none
  n_all : mg "all" = none
  n_zip : mg "zip" = none
  n_bool : mg "bool" = none
  n_str : mg "str" = none
  n_range : mg "range" = none
  a_SetRow : Addr
  c_SetRow : mg "SetRow" = some (.ref a_SetRow)
  cl_SetRow : Cls K a_SetRow
  na_SetRow_name : NoAttr K a_SetRow "name"
  na_SetRow_one : NoAttr K a_SetRow "one"
  na_SetRow_sign : NoAttr K a_SetRow "sign"
  na_SetRow_other : NoAttr K a_SetRow "other"
  a_AskRow : Addr
  c_AskRow : mg "AskRow" = some (.ref a_AskRow)
  cl_AskRow : Cls K a_AskRow
  na_AskRow_name : NoAttr K a_AskRow "name"
  a_TellRow : Addr
  c_TellRow : mg "TellRow" = some (.ref a_TellRow)
  cl_TellRow : Cls K a_TellRow
  na_TellRow_atom : NoAttr K a_TellRow "atom"
  a_IfRow : Addr
  c_IfRow : mg "IfRow" = some (.ref a_IfRow)
  cl_IfRow : Cls K a_IfRow
  na_IfRow_atom : NoAttr K a_IfRow "atom"
  na_IfRow_rows : NoAttr K a_IfRow "rows"
  na_IfRow_others : NoAttr K a_IfRow "others"
  a_WhileRow : Addr
  c_WhileRow : mg "WhileRow" = some (.ref a_WhileRow)
  cl_WhileRow : Cls K a_WhileRow
  na_WhileRow_atom : NoAttr K a_WhileRow "atom"
  na_WhileRow_rows : NoAttr K a_WhileRow "rows"
  a_Helper : Addr
  c_Helper : mg "Helper" = some (.ref a_Helper)
  cl_Helper : Cls K a_Helper
  na_Helper_name : NoAttr K a_Helper "name"
  na_Helper_params : NoAttr K a_Helper "params"
  na_Helper_gives : NoAttr K a_Helper "gives"
  na_Helper_rows : NoAttr K a_Helper "rows"
  a_Program : Addr
  c_Program : mg "Program" = some (.ref a_Program)
  cl_Program : Cls K a_Program
  na_Program_records : NoAttr K a_Program "records"
  na_Program_helpers : NoAttr K a_Program "helpers"
  a_Teller : Addr
  c_Teller : mg "Teller" = some (.ref a_Teller)
  cl_Teller : Cls K a_Teller
  na_Teller_helpers : NoAttr K a_Teller "helpers"
  na_Teller_layouts : NoAttr K a_Teller "layouts"
  na_Teller_world : NoAttr K a_Teller "world"
  na_Teller_inputs : NoAttr K a_Teller "inputs"
  na_Teller_asked : NoAttr K a_Teller "asked"
  na_Teller_ticks : NoAttr K a_Teller "ticks"
  na_Teller_numbers : NoAttr K a_Teller "numbers"
  a_World : Addr
  c_World : mg "World" = some (.ref a_World)
  cl_World : Cls K a_World
  na_World_boxes : NoAttr K a_World "boxes"
  a_Row : Addr
  c_Row : mg "Row" = some (.ref a_Row)
  cl_Row : Cls K a_Row
  m_PRIME : ∃ t, mg "PRIME" = some (.int (1000003) t)
  f_SetRow_init : Addr
  d_SetRow_init : FuncData
  F_SetRow_init : Fun K "__init__" "SetRow.__init__" s_SetRow_init f_SetRow_init d_SetRow_init
  B_SetRow_init : Binds K d_SetRow_init ["self", "name", "one", "sign", "other"] []
  Mk_SetRow : Mk K a_SetRow f_SetRow_init
  f_AskRow_init : Addr
  d_AskRow_init : FuncData
  F_AskRow_init : Fun K "__init__" "AskRow.__init__" s_AskRow_init f_AskRow_init d_AskRow_init
  B_AskRow_init : Binds K d_AskRow_init ["self", "name"] []
  Mk_AskRow : Mk K a_AskRow f_AskRow_init
  f_TellRow_init : Addr
  d_TellRow_init : FuncData
  F_TellRow_init : Fun K "__init__" "TellRow.__init__" s_TellRow_init f_TellRow_init d_TellRow_init
  B_TellRow_init : Binds K d_TellRow_init ["self", "atom"] []
  Mk_TellRow : Mk K a_TellRow f_TellRow_init
  f_IfRow_init : Addr
  d_IfRow_init : FuncData
  F_IfRow_init : Fun K "__init__" "IfRow.__init__" s_IfRow_init f_IfRow_init d_IfRow_init
  B_IfRow_init : Binds K d_IfRow_init ["self", "atom", "rows", "others"] []
  Mk_IfRow : Mk K a_IfRow f_IfRow_init
  f_WhileRow_init : Addr
  d_WhileRow_init : FuncData
  F_WhileRow_init : Fun K "__init__" "WhileRow.__init__" s_WhileRow_init f_WhileRow_init d_WhileRow_init
  B_WhileRow_init : Binds K d_WhileRow_init ["self", "atom", "rows"] []
  Mk_WhileRow : Mk K a_WhileRow f_WhileRow_init
  f_Helper_init : Addr
  d_Helper_init : FuncData
  F_Helper_init : Fun K "__init__" "Helper.__init__" s_Helper_init f_Helper_init d_Helper_init
  B_Helper_init : Binds K d_Helper_init ["self", "name", "params", "gives", "rows"] []
  Mk_Helper : Mk K a_Helper f_Helper_init
  f_Program_init : Addr
  d_Program_init : FuncData
  F_Program_init : Fun K "__init__" "Program.__init__" s_Program_init f_Program_init d_Program_init
  B_Program_init : Binds K d_Program_init ["self", "records", "helpers"] []
  Mk_Program : Mk K a_Program f_Program_init
  f_Teller_init : Addr
  d_Teller_init : FuncData
  F_Teller_init : Fun K "__init__" "Teller.__init__" s_Teller_init f_Teller_init d_Teller_init
  B_Teller_init : Binds K d_Teller_init ["self", "program", "inputs", "ticks"] []
  Mk_Teller : Mk K a_Teller f_Teller_init
  f_World_init : Addr
  d_World_init : FuncData
  F_World_init : Fun K "__init__" "World.__init__" s_World_init f_World_init d_World_init
  B_World_init : Binds K d_World_init ["self"] []
  Mk_World : Mk K a_World f_World_init
  f_rows_of : Addr
  d_rows_of : FuncData
  F_rows_of : Fun K "rows_of" "rows_of" s_rows_of f_rows_of d_rows_of
  B_rows_of : Binds K d_rows_of ["some"] []
  m_rows_of : mg "rows_of" = some (.ref f_rows_of)
  f_block_of : Addr
  d_block_of : FuncData
  F_block_of : Fun K "block_of" "block_of" s_block_of f_block_of d_block_of
  B_block_of : Binds K d_block_of ["told"] []
  m_block_of : mg "block_of" = some (.ref f_block_of)
  f_row_of : Addr
  d_row_of : FuncData
  F_row_of : Fun K "row_of" "row_of" s_row_of f_row_of d_row_of
  B_row_of : Binds K d_row_of ["told"] []
  m_row_of : mg "row_of" = some (.ref f_row_of)
  f_Over_init : Addr
  d_Over_init : FuncData
  F_Over_init : Fun K "__init__" "Over.__init__" s_Over_init f_Over_init d_Over_init
  B_Over_init : Binds K d_Over_init ["self", "how"] []
  f_reckoned : Addr
  d_reckoned : FuncData
  F_reckoned : Fun K "reckoned" "reckoned" s_reckoned f_reckoned d_reckoned
  B_reckoned : Binds K d_reckoned ["one", "sign", "other"] []
  m_reckoned : mg "reckoned" = some (.ref f_reckoned)
  f_Teller_ticked : Addr
  d_Teller_ticked : FuncData
  F_Teller_ticked : Fun K "ticked" "Teller.ticked" s_Teller_ticked f_Teller_ticked d_Teller_ticked
  B_Teller_ticked : Binds K d_Teller_ticked ["self"] []
  f_Teller_worth : Addr
  d_Teller_worth : FuncData
  F_Teller_worth : Fun K "worth" "Teller.worth" s_Teller_worth f_Teller_worth d_Teller_worth
  B_Teller_worth : Binds K d_Teller_worth ["self", "frame", "atom"] []
  f_Teller_numbered : Addr
  d_Teller_numbered : FuncData
  F_Teller_numbered : Fun K "numbered" "Teller.numbered" s_Teller_numbered f_Teller_numbered d_Teller_numbered
  B_Teller_numbered : Binds K d_Teller_numbered ["self", "frame", "row"] []
  f_Teller_blocked : Addr
  d_Teller_blocked : FuncData
  F_Teller_blocked : Fun K "blocked" "Teller.blocked" s_Teller_blocked f_Teller_blocked d_Teller_blocked
  B_Teller_blocked : Binds K d_Teller_blocked ["self", "frame", "row"] []
  f_Teller_done : Addr
  d_Teller_done : FuncData
  F_Teller_done : Fun K "done" "Teller.done" s_Teller_done f_Teller_done d_Teller_done
  B_Teller_done : Binds K d_Teller_done ["self", "frame", "row"] []
  f_Teller_went : Addr
  d_Teller_went : FuncData
  F_Teller_went : Fun K "went" "Teller.went" s_Teller_went f_Teller_went d_Teller_went
  B_Teller_went : Binds K d_Teller_went ["self", "frame", "rows"] []
  f_Teller_ran : Addr
  d_Teller_ran : FuncData
  F_Teller_ran : Fun K "ran" "Teller.ran" s_Teller_ran f_Teller_ran d_Teller_ran
  B_Teller_ran : Binds K d_Teller_ran ["self", "helper", "frame"] []
  f_World_many : Addr
  d_World_many : FuncData
  F_World_many : Fun K "many" "World.many" s_World_many f_World_many d_World_many
  B_World_many : Binds K d_World_many ["self"] []
  f_run_of : Addr
  d_run_of : FuncData
  F_run_of : Fun K "run_of" "run_of" s_run_of f_run_of d_run_of
  B_run_of : Binds K d_run_of ["program", "inputs", "ticks"] []
  m_run_of : mg "run_of" = some (.ref f_run_of)
  f_told_of : Addr
  d_told_of : FuncData
  F_told_of : Fun K "told_of" "told_of" s_told_of f_told_of d_told_of
  B_told_of : Binds K d_told_of ["program", "inputs", "ticks"] []
  m_told_of : mg "told_of" = some (.ref f_told_of)
  f_world_of : Addr
  d_world_of : FuncData
  F_world_of : Fun K "world_of" "world_of" s_world_of f_world_of d_world_of
  B_world_of : Binds K d_world_of ["program", "inputs", "ticks"] []
  m_world_of : mg "world_of" = some (.ref f_world_of)
  f_l_draw : Addr
  d_l_draw : FuncData
  F_l_draw : Fun K "_law_draw" "_law_draw" s_l_draw f_l_draw d_l_draw
  B_l_draw : Binds K d_l_draw ["_law_script", "_law_tape", "_law_many"] []
  m_l_draw : mg "_law_draw" = some (.ref f_l_draw)
  f_l_pick : Addr
  d_l_pick : FuncData
  F_l_pick : Fun K "_law_pick" "_law_pick" s_l_pick f_l_pick d_l_pick
  B_l_pick : Binds K d_l_pick ["_law_script", "_law_tape", "_law_some"] []
  m_l_pick : mg "_law_pick" = some (.ref f_l_pick)
  f_l_made : Addr
  d_l_made : FuncData
  F_l_made : Fun K "_law_made" "_law_made" s_l_made f_l_made d_l_made
  B_l_made : Binds K d_l_made ["_law_told"] []
  m_l_made : mg "_law_made" = some (.ref f_l_made)
  f_l_alike : Addr
  d_l_alike : FuncData
  F_l_alike : Fun K "_law_alike" "_law_alike" s_l_alike f_l_alike d_l_alike
  B_l_alike : Binds K d_l_alike ["_law_found", "_law_due"] []
  m_l_alike : mg "_law_alike" = some (.ref f_l_alike)
  f_l_atom : Addr
  d_l_atom : FuncData
  F_l_atom : Fun K "_law_atom" "_law_atom" s_l_atom f_l_atom d_l_atom
  B_l_atom : Binds K d_l_atom ["_law_script", "_law_tape"] []
  m_l_atom : mg "_law_atom" = some (.ref f_l_atom)
  f_l_rows : Addr
  d_l_rows : FuncData
  F_l_rows : Fun K "_law_rows" "_law_rows" s_l_rows f_l_rows d_l_rows
  B_l_rows : Binds K d_l_rows ["_law_script", "_law_tape", "_law_deep", "_law_most"] []
  m_l_rows : mg "_law_rows" = some (.ref f_l_rows)
  f_l_value : Addr
  d_l_value : FuncData
  F_l_value : Fun K "_law_value" "_law_value" s_l_value f_l_value d_l_value
  B_l_value : Binds K d_l_value ["_law_env", "_law_atom_here"] []
  m_l_value : mg "_law_value" = some (.ref f_l_value)
  f_l_number : Addr
  d_l_number : FuncData
  F_l_number : Fun K "_law_number" "_law_number" s_l_number f_l_number d_l_number
  B_l_number : Binds K d_l_number ["_law_run", "_law_env", "_law_told"] []
  m_l_number : mg "_law_number" = some (.ref f_l_number)
  f_l_walk : Addr
  d_l_walk : FuncData
  F_l_walk : Fun K "_law_walk" "_law_walk" s_l_walk f_l_walk d_l_walk
  B_l_walk : Binds K d_l_walk ["_law_run", "_law_env", "_law_rows_here"] []
  m_l_walk : mg "_law_walk" = some (.ref f_l_walk)
  f_law : Addr
  d_law : FuncData
  F_law : Fun K "law" "law" s_law f_law d_law
  B_law : Binds K d_law ["_law_script"] []
  m_law : mg "law" = some (.ref f_law)
  a_Over : Addr
  c_Over : mg "Over" = some (.ref a_Over)
  ox_Over : OexX K a_Over
  xf_Over : XfC K a_Over
  iC_Over : PySem.W.findIn K (.ref a_Over) "__init__" = some (some (.ref f_Over_init))
  tI_Over : PySem.W.typeIn K (.ref f_Over_init) = some (.type "function")
  xa_Over_how : PySem.W.findIn K (.ref a_Over) "how" = some none
  em_Over_Over : PySem.W.exmOne K (.ref a_Over) (.ref a_Over) = some true
  ek_Over_Over : PySem.W.kitOne K (.ref a_Over) (.ref a_Over) = some true
  M_Teller_ticked : Meth K a_Teller "ticked" f_Teller_ticked
  M_Teller_worth : Meth K a_Teller "worth" f_Teller_worth
  M_Teller_numbered : Meth K a_Teller "numbered" f_Teller_numbered
  M_Teller_blocked : Meth K a_Teller "blocked" f_Teller_blocked
  M_Teller_done : Meth K a_Teller "done" f_Teller_done
  M_Teller_went : Meth K a_Teller "went" f_Teller_went
  M_Teller_ran : Meth K a_Teller "ran" f_Teller_ran
  M_World_many : Meth K a_World "many" f_World_many
  isi : isiB K [a_SetRow, a_AskRow, a_TellRow, a_IfRow, a_WhileRow] a_Row = true
def spLaw (K : PySem.W.Frag) : Sp := fun vs H Q _ => ∃ (a : Addr) (ns : List Int), vs = [.ref a] ∧ SqL K H a (ns.map V.int) ∧ ns.length ≤ 63 ∧ ∀ H', Q (.bl true) H'
/-! ### the head: facts as Bool functions of the written part, one kernel run of the top -/
def eqB {α : Type} [BEq α] (a b : Option α) : Bool := a == b
theorem eqB_ok {α : Type} [BEq α] [LawfulBEq α] {a b : Option α} (h : eqB a b = true) : a = b := eq_of_beq h
def intIs : Option (Option Value) → Int → Bool
  | some (some (.int i _)), v => i == v
  | _, _ => false
theorem intIs_ok {o : Option (Option Value)} {v : Int} (h : intIs o v = true) : ∃ t, o = some (some (.int v t)) := by
  unfold intIs at h
  split at h
  · exact ⟨_, by rw [eq_of_beq h]⟩
  · cases h
def hf0 : List (PySem.W.Frag → Bool) := [fun K => He.eqO (PySem.W.nsIn K mainGlobals "tuple") (some none),
  fun K => He.eqO (PySem.W.nsIn K mainGlobals "list") (some none),
  fun K => He.eqO (PySem.W.nsIn K mainGlobals "Exception") (some none),
  fun K => He.eqO (PySem.W.nsIn K mainGlobals "int") (some none),
  fun K => He.eqO (PySem.W.nsIn K mainGlobals "isinstance") (some none),
  fun K => He.eqO (PySem.W.nsIn K mainGlobals "len") (some none),
  fun K => He.eqO (PySem.W.nsIn K mainGlobals "all") (some none),
  fun K => He.eqO (PySem.W.nsIn K mainGlobals "zip") (some none),
  fun K => He.eqO (PySem.W.nsIn K mainGlobals "bool") (some none),
  fun K => He.eqO (PySem.W.nsIn K mainGlobals "str") (some none),
  fun K => He.eqO (PySem.W.nsIn K mainGlobals "range") (some none),
  fun K => He.eqO (PySem.W.nsIn K mainGlobals "SetRow") (some (some (.ref (He.ga K "SetRow")))),
  fun K => PySem.W.plainGet K (He.ga K "SetRow") Str.empty,
  fun K => PySem.W.hasDictIn K (He.ga K "SetRow"),
  fun K => PySem.W.plainOver K (He.ga K "SetRow"),
  fun K => He.eqO (PySem.W.findIn K (.ref (He.ga K "SetRow")) "__setattr__") (some (some (.builtin "object.__setattr__"))),
  fun K => PySem.W.makesIn K (He.ga K "SetRow"),
  fun K => PySem.W.keepIn K (.ref (He.ga K "SetRow")),
  fun K => He.eqO (PySem.W.findIn K (.ref (He.ga K "SetRow")) "name") (some none),
  fun K => He.eqO (PySem.W.findIn K (.ref (He.ga K "SetRow")) "one") (some none),
  fun K => He.eqO (PySem.W.findIn K (.ref (He.ga K "SetRow")) "sign") (some none),
  fun K => He.eqO (PySem.W.findIn K (.ref (He.ga K "SetRow")) "other") (some none),
  fun K => He.eqO (PySem.W.nsIn K mainGlobals "AskRow") (some (some (.ref (He.ga K "AskRow")))),
  fun K => PySem.W.plainGet K (He.ga K "AskRow") Str.empty,
  fun K => PySem.W.hasDictIn K (He.ga K "AskRow")]
def hf1 : List (PySem.W.Frag → Bool) := [fun K => PySem.W.plainOver K (He.ga K "AskRow"),
  fun K => He.eqO (PySem.W.findIn K (.ref (He.ga K "AskRow")) "__setattr__") (some (some (.builtin "object.__setattr__"))),
  fun K => PySem.W.makesIn K (He.ga K "AskRow"),
  fun K => PySem.W.keepIn K (.ref (He.ga K "AskRow")),
  fun K => He.eqO (PySem.W.findIn K (.ref (He.ga K "AskRow")) "name") (some none),
  fun K => He.eqO (PySem.W.nsIn K mainGlobals "TellRow") (some (some (.ref (He.ga K "TellRow")))),
  fun K => PySem.W.plainGet K (He.ga K "TellRow") Str.empty,
  fun K => PySem.W.hasDictIn K (He.ga K "TellRow"),
  fun K => PySem.W.plainOver K (He.ga K "TellRow"),
  fun K => He.eqO (PySem.W.findIn K (.ref (He.ga K "TellRow")) "__setattr__") (some (some (.builtin "object.__setattr__"))),
  fun K => PySem.W.makesIn K (He.ga K "TellRow"),
  fun K => PySem.W.keepIn K (.ref (He.ga K "TellRow")),
  fun K => He.eqO (PySem.W.findIn K (.ref (He.ga K "TellRow")) "atom") (some none),
  fun K => He.eqO (PySem.W.nsIn K mainGlobals "IfRow") (some (some (.ref (He.ga K "IfRow")))),
  fun K => PySem.W.plainGet K (He.ga K "IfRow") Str.empty,
  fun K => PySem.W.hasDictIn K (He.ga K "IfRow"),
  fun K => PySem.W.plainOver K (He.ga K "IfRow"),
  fun K => He.eqO (PySem.W.findIn K (.ref (He.ga K "IfRow")) "__setattr__") (some (some (.builtin "object.__setattr__"))),
  fun K => PySem.W.makesIn K (He.ga K "IfRow"),
  fun K => PySem.W.keepIn K (.ref (He.ga K "IfRow")),
  fun K => He.eqO (PySem.W.findIn K (.ref (He.ga K "IfRow")) "atom") (some none),
  fun K => He.eqO (PySem.W.findIn K (.ref (He.ga K "IfRow")) "rows") (some none),
  fun K => He.eqO (PySem.W.findIn K (.ref (He.ga K "IfRow")) "others") (some none),
  fun K => He.eqO (PySem.W.nsIn K mainGlobals "WhileRow") (some (some (.ref (He.ga K "WhileRow")))),
  fun K => PySem.W.plainGet K (He.ga K "WhileRow") Str.empty]
def hf2 : List (PySem.W.Frag → Bool) := [fun K => PySem.W.hasDictIn K (He.ga K "WhileRow"),
  fun K => PySem.W.plainOver K (He.ga K "WhileRow"),
  fun K => He.eqO (PySem.W.findIn K (.ref (He.ga K "WhileRow")) "__setattr__") (some (some (.builtin "object.__setattr__"))),
  fun K => PySem.W.makesIn K (He.ga K "WhileRow"),
  fun K => PySem.W.keepIn K (.ref (He.ga K "WhileRow")),
  fun K => He.eqO (PySem.W.findIn K (.ref (He.ga K "WhileRow")) "atom") (some none),
  fun K => He.eqO (PySem.W.findIn K (.ref (He.ga K "WhileRow")) "rows") (some none),
  fun K => He.eqO (PySem.W.nsIn K mainGlobals "Helper") (some (some (.ref (He.ga K "Helper")))),
  fun K => PySem.W.plainGet K (He.ga K "Helper") Str.empty,
  fun K => PySem.W.hasDictIn K (He.ga K "Helper"),
  fun K => PySem.W.plainOver K (He.ga K "Helper"),
  fun K => He.eqO (PySem.W.findIn K (.ref (He.ga K "Helper")) "__setattr__") (some (some (.builtin "object.__setattr__"))),
  fun K => PySem.W.makesIn K (He.ga K "Helper"),
  fun K => PySem.W.keepIn K (.ref (He.ga K "Helper")),
  fun K => He.eqO (PySem.W.findIn K (.ref (He.ga K "Helper")) "name") (some none),
  fun K => He.eqO (PySem.W.findIn K (.ref (He.ga K "Helper")) "params") (some none),
  fun K => He.eqO (PySem.W.findIn K (.ref (He.ga K "Helper")) "gives") (some none),
  fun K => He.eqO (PySem.W.findIn K (.ref (He.ga K "Helper")) "rows") (some none),
  fun K => He.eqO (PySem.W.nsIn K mainGlobals "Program") (some (some (.ref (He.ga K "Program")))),
  fun K => PySem.W.plainGet K (He.ga K "Program") Str.empty,
  fun K => PySem.W.hasDictIn K (He.ga K "Program"),
  fun K => PySem.W.plainOver K (He.ga K "Program"),
  fun K => He.eqO (PySem.W.findIn K (.ref (He.ga K "Program")) "__setattr__") (some (some (.builtin "object.__setattr__"))),
  fun K => PySem.W.makesIn K (He.ga K "Program"),
  fun K => PySem.W.keepIn K (.ref (He.ga K "Program"))]
def hf3 : List (PySem.W.Frag → Bool) := [fun K => He.eqO (PySem.W.findIn K (.ref (He.ga K "Program")) "records") (some none),
  fun K => He.eqO (PySem.W.findIn K (.ref (He.ga K "Program")) "helpers") (some none),
  fun K => He.eqO (PySem.W.nsIn K mainGlobals "Teller") (some (some (.ref (He.ga K "Teller")))),
  fun K => PySem.W.plainGet K (He.ga K "Teller") Str.empty,
  fun K => PySem.W.hasDictIn K (He.ga K "Teller"),
  fun K => PySem.W.plainOver K (He.ga K "Teller"),
  fun K => He.eqO (PySem.W.findIn K (.ref (He.ga K "Teller")) "__setattr__") (some (some (.builtin "object.__setattr__"))),
  fun K => PySem.W.makesIn K (He.ga K "Teller"),
  fun K => PySem.W.keepIn K (.ref (He.ga K "Teller")),
  fun K => He.eqO (PySem.W.findIn K (.ref (He.ga K "Teller")) "helpers") (some none),
  fun K => He.eqO (PySem.W.findIn K (.ref (He.ga K "Teller")) "layouts") (some none),
  fun K => He.eqO (PySem.W.findIn K (.ref (He.ga K "Teller")) "world") (some none),
  fun K => He.eqO (PySem.W.findIn K (.ref (He.ga K "Teller")) "inputs") (some none),
  fun K => He.eqO (PySem.W.findIn K (.ref (He.ga K "Teller")) "asked") (some none),
  fun K => He.eqO (PySem.W.findIn K (.ref (He.ga K "Teller")) "ticks") (some none),
  fun K => He.eqO (PySem.W.findIn K (.ref (He.ga K "Teller")) "numbers") (some none),
  fun K => He.eqO (PySem.W.nsIn K mainGlobals "World") (some (some (.ref (He.ga K "World")))),
  fun K => PySem.W.plainGet K (He.ga K "World") Str.empty,
  fun K => PySem.W.hasDictIn K (He.ga K "World"),
  fun K => PySem.W.plainOver K (He.ga K "World"),
  fun K => He.eqO (PySem.W.findIn K (.ref (He.ga K "World")) "__setattr__") (some (some (.builtin "object.__setattr__"))),
  fun K => PySem.W.makesIn K (He.ga K "World"),
  fun K => PySem.W.keepIn K (.ref (He.ga K "World")),
  fun K => He.eqO (PySem.W.findIn K (.ref (He.ga K "World")) "boxes") (some none),
  fun K => He.eqO (PySem.W.nsIn K mainGlobals "Row") (some (some (.ref (He.ga K "Row"))))]
def hf4 : List (PySem.W.Frag → Bool) := [fun K => PySem.W.plainGet K (He.ga K "Row") Str.empty,
  fun K => PySem.W.hasDictIn K (He.ga K "Row"),
  fun K => PySem.W.plainOver K (He.ga K "Row"),
  fun K => He.eqO (PySem.W.findIn K (.ref (He.ga K "Row")) "__setattr__") (some (some (.builtin "object.__setattr__"))),
  fun K => He.eqO (PySem.W.nsIn K mainGlobals "Over") (some (some (.ref (He.ga K "Over")))),
  fun K => oexXB K (He.ga K "Over"),
  fun K => xfB K (He.ga K "Over"),
  fun K => He.eqO (PySem.W.findIn K (.ref (He.ga K "Over")) "__setattr__") (some (some (.builtin "object.__setattr__"))),
  fun K => eqB (PySem.W.subIn K (.ref (He.ga K "Over")) (.type "BaseException")) (some true),
  fun K => eqB (PySem.W.typeIn K (.ref (He.ga K "Over"))) (some (.type "type")),
  fun K => PySem.W.keepIn K (.ref (He.ga K "Over")),
  fun K => eqB (PySem.W.typeIn K (.ref (He.fAd K ("Over", some "__init__")))) (some (.type "function")),
  fun K => He.eqO (PySem.W.findIn K (.ref (He.ga K "Over")) "how") (some none),
  fun K => eqB (PySem.W.exmOne K (.ref (He.ga K "Over")) (.ref (He.ga K "Over"))) (some true),
  fun K => eqB (PySem.W.kitOne K (.ref (He.ga K "Over")) (.ref (He.ga K "Over"))) (some true),
  fun K => intIs (PySem.W.nsIn K mainGlobals "PRIME") (1000003),
  fun K => isiB K [(He.ga K "SetRow"), (He.ga K "AskRow"), (He.ga K "TellRow"), (He.ga K "IfRow"), (He.ga K "WhileRow")] (He.ga K "Row"),
  fun K => He.eqO (PySem.W.findIn K (.ref (He.ga K "SetRow")) "__init__") (some (some (.ref (He.fAd K ("SetRow", some "__init__"))))),
  fun K => PySem.W.isFn K (.ref (He.fAd K ("SetRow", some "__init__"))),
  fun K => PySem.W.keepIn K (.ref (He.fAd K ("SetRow", some "__init__"))),
  fun K => He.eqO (PySem.W.findIn K (.ref (He.ga K "AskRow")) "__init__") (some (some (.ref (He.fAd K ("AskRow", some "__init__"))))),
  fun K => PySem.W.isFn K (.ref (He.fAd K ("AskRow", some "__init__"))),
  fun K => PySem.W.keepIn K (.ref (He.fAd K ("AskRow", some "__init__"))),
  fun K => He.eqO (PySem.W.findIn K (.ref (He.ga K "TellRow")) "__init__") (some (some (.ref (He.fAd K ("TellRow", some "__init__"))))),
  fun K => PySem.W.isFn K (.ref (He.fAd K ("TellRow", some "__init__")))]
def hf5 : List (PySem.W.Frag → Bool) := [fun K => PySem.W.keepIn K (.ref (He.fAd K ("TellRow", some "__init__"))),
  fun K => He.eqO (PySem.W.findIn K (.ref (He.ga K "IfRow")) "__init__") (some (some (.ref (He.fAd K ("IfRow", some "__init__"))))),
  fun K => PySem.W.isFn K (.ref (He.fAd K ("IfRow", some "__init__"))),
  fun K => PySem.W.keepIn K (.ref (He.fAd K ("IfRow", some "__init__"))),
  fun K => He.eqO (PySem.W.findIn K (.ref (He.ga K "WhileRow")) "__init__") (some (some (.ref (He.fAd K ("WhileRow", some "__init__"))))),
  fun K => PySem.W.isFn K (.ref (He.fAd K ("WhileRow", some "__init__"))),
  fun K => PySem.W.keepIn K (.ref (He.fAd K ("WhileRow", some "__init__"))),
  fun K => He.eqO (PySem.W.findIn K (.ref (He.ga K "Helper")) "__init__") (some (some (.ref (He.fAd K ("Helper", some "__init__"))))),
  fun K => PySem.W.isFn K (.ref (He.fAd K ("Helper", some "__init__"))),
  fun K => PySem.W.keepIn K (.ref (He.fAd K ("Helper", some "__init__"))),
  fun K => He.eqO (PySem.W.findIn K (.ref (He.ga K "Program")) "__init__") (some (some (.ref (He.fAd K ("Program", some "__init__"))))),
  fun K => PySem.W.isFn K (.ref (He.fAd K ("Program", some "__init__"))),
  fun K => PySem.W.keepIn K (.ref (He.fAd K ("Program", some "__init__"))),
  fun K => He.eqO (PySem.W.findIn K (.ref (He.ga K "Teller")) "__init__") (some (some (.ref (He.fAd K ("Teller", some "__init__"))))),
  fun K => PySem.W.isFn K (.ref (He.fAd K ("Teller", some "__init__"))),
  fun K => PySem.W.keepIn K (.ref (He.fAd K ("Teller", some "__init__"))),
  fun K => He.eqO (PySem.W.findIn K (.ref (He.ga K "World")) "__init__") (some (some (.ref (He.fAd K ("World", some "__init__"))))),
  fun K => PySem.W.isFn K (.ref (He.fAd K ("World", some "__init__"))),
  fun K => PySem.W.keepIn K (.ref (He.fAd K ("World", some "__init__"))),
  fun K => He.eqO (PySem.W.nsIn K mainGlobals "rows_of") (some (some (.ref (He.fAd K ("rows_of", none))))),
  fun K => PySem.W.keepIn K (.ref (He.fAd K ("rows_of", none))),
  fun K => He.eqO (PySem.W.nsIn K mainGlobals "block_of") (some (some (.ref (He.fAd K ("block_of", none))))),
  fun K => PySem.W.keepIn K (.ref (He.fAd K ("block_of", none))),
  fun K => He.eqO (PySem.W.nsIn K mainGlobals "row_of") (some (some (.ref (He.fAd K ("row_of", none))))),
  fun K => PySem.W.keepIn K (.ref (He.fAd K ("row_of", none)))]
def hf6 : List (PySem.W.Frag → Bool) := [fun K => He.eqO (PySem.W.findIn K (.ref (He.ga K "Over")) "__init__") (some (some (.ref (He.fAd K ("Over", some "__init__"))))),
  fun K => PySem.W.isFn K (.ref (He.fAd K ("Over", some "__init__"))),
  fun K => PySem.W.keepIn K (.ref (He.fAd K ("Over", some "__init__"))),
  fun K => He.eqO (PySem.W.nsIn K mainGlobals "reckoned") (some (some (.ref (He.fAd K ("reckoned", none))))),
  fun K => PySem.W.keepIn K (.ref (He.fAd K ("reckoned", none))),
  fun K => He.eqO (PySem.W.findIn K (.ref (He.ga K "Teller")) "ticked") (some (some (.ref (He.fAd K ("Teller", some "ticked"))))),
  fun K => PySem.W.isFn K (.ref (He.fAd K ("Teller", some "ticked"))),
  fun K => PySem.W.keepIn K (.ref (He.fAd K ("Teller", some "ticked"))),
  fun K => He.eqO (PySem.W.findIn K (.ref (He.ga K "Teller")) "worth") (some (some (.ref (He.fAd K ("Teller", some "worth"))))),
  fun K => PySem.W.isFn K (.ref (He.fAd K ("Teller", some "worth"))),
  fun K => PySem.W.keepIn K (.ref (He.fAd K ("Teller", some "worth"))),
  fun K => He.eqO (PySem.W.findIn K (.ref (He.ga K "Teller")) "numbered") (some (some (.ref (He.fAd K ("Teller", some "numbered"))))),
  fun K => PySem.W.isFn K (.ref (He.fAd K ("Teller", some "numbered"))),
  fun K => PySem.W.keepIn K (.ref (He.fAd K ("Teller", some "numbered"))),
  fun K => He.eqO (PySem.W.findIn K (.ref (He.ga K "Teller")) "blocked") (some (some (.ref (He.fAd K ("Teller", some "blocked"))))),
  fun K => PySem.W.isFn K (.ref (He.fAd K ("Teller", some "blocked"))),
  fun K => PySem.W.keepIn K (.ref (He.fAd K ("Teller", some "blocked"))),
  fun K => He.eqO (PySem.W.findIn K (.ref (He.ga K "Teller")) "done") (some (some (.ref (He.fAd K ("Teller", some "done"))))),
  fun K => PySem.W.isFn K (.ref (He.fAd K ("Teller", some "done"))),
  fun K => PySem.W.keepIn K (.ref (He.fAd K ("Teller", some "done"))),
  fun K => He.eqO (PySem.W.findIn K (.ref (He.ga K "Teller")) "went") (some (some (.ref (He.fAd K ("Teller", some "went"))))),
  fun K => PySem.W.isFn K (.ref (He.fAd K ("Teller", some "went"))),
  fun K => PySem.W.keepIn K (.ref (He.fAd K ("Teller", some "went"))),
  fun K => He.eqO (PySem.W.findIn K (.ref (He.ga K "Teller")) "ran") (some (some (.ref (He.fAd K ("Teller", some "ran"))))),
  fun K => PySem.W.isFn K (.ref (He.fAd K ("Teller", some "ran")))]
def hf7 : List (PySem.W.Frag → Bool) := [fun K => PySem.W.keepIn K (.ref (He.fAd K ("Teller", some "ran"))),
  fun K => He.eqO (PySem.W.findIn K (.ref (He.ga K "World")) "many") (some (some (.ref (He.fAd K ("World", some "many"))))),
  fun K => PySem.W.isFn K (.ref (He.fAd K ("World", some "many"))),
  fun K => PySem.W.keepIn K (.ref (He.fAd K ("World", some "many"))),
  fun K => He.eqO (PySem.W.nsIn K mainGlobals "run_of") (some (some (.ref (He.fAd K ("run_of", none))))),
  fun K => PySem.W.keepIn K (.ref (He.fAd K ("run_of", none))),
  fun K => He.eqO (PySem.W.nsIn K mainGlobals "told_of") (some (some (.ref (He.fAd K ("told_of", none))))),
  fun K => PySem.W.keepIn K (.ref (He.fAd K ("told_of", none))),
  fun K => He.eqO (PySem.W.nsIn K mainGlobals "world_of") (some (some (.ref (He.fAd K ("world_of", none))))),
  fun K => PySem.W.keepIn K (.ref (He.fAd K ("world_of", none))),
  fun K => He.eqO (PySem.W.nsIn K mainGlobals "_law_draw") (some (some (.ref (He.fAd K ("_law_draw", none))))),
  fun K => PySem.W.keepIn K (.ref (He.fAd K ("_law_draw", none))),
  fun K => He.eqO (PySem.W.nsIn K mainGlobals "_law_pick") (some (some (.ref (He.fAd K ("_law_pick", none))))),
  fun K => PySem.W.keepIn K (.ref (He.fAd K ("_law_pick", none))),
  fun K => He.eqO (PySem.W.nsIn K mainGlobals "_law_made") (some (some (.ref (He.fAd K ("_law_made", none))))),
  fun K => PySem.W.keepIn K (.ref (He.fAd K ("_law_made", none))),
  fun K => He.eqO (PySem.W.nsIn K mainGlobals "_law_alike") (some (some (.ref (He.fAd K ("_law_alike", none))))),
  fun K => PySem.W.keepIn K (.ref (He.fAd K ("_law_alike", none))),
  fun K => He.eqO (PySem.W.nsIn K mainGlobals "_law_atom") (some (some (.ref (He.fAd K ("_law_atom", none))))),
  fun K => PySem.W.keepIn K (.ref (He.fAd K ("_law_atom", none))),
  fun K => He.eqO (PySem.W.nsIn K mainGlobals "_law_rows") (some (some (.ref (He.fAd K ("_law_rows", none))))),
  fun K => PySem.W.keepIn K (.ref (He.fAd K ("_law_rows", none))),
  fun K => He.eqO (PySem.W.nsIn K mainGlobals "_law_value") (some (some (.ref (He.fAd K ("_law_value", none))))),
  fun K => PySem.W.keepIn K (.ref (He.fAd K ("_law_value", none))),
  fun K => He.eqO (PySem.W.nsIn K mainGlobals "_law_number") (some (some (.ref (He.fAd K ("_law_number", none)))))]
def hf8 : List (PySem.W.Frag → Bool) := [fun K => PySem.W.keepIn K (.ref (He.fAd K ("_law_number", none))),
  fun K => He.eqO (PySem.W.nsIn K mainGlobals "_law_walk") (some (some (.ref (He.fAd K ("_law_walk", none))))),
  fun K => PySem.W.keepIn K (.ref (He.fAd K ("_law_walk", none))),
  fun K => He.eqO (PySem.W.nsIn K mainGlobals "law") (some (some (.ref (He.fAd K ("law", none))))),
  fun K => PySem.W.keepIn K (.ref (He.fAd K ("law", none)))]
def hfs : List (PySem.W.Frag → Bool) := hf0 ++ hf1 ++ hf2 ++ hf3 ++ hf4 ++ hf5 ++ hf6 ++ hf7 ++ hf8
def hd_SetRow_init : He.FnD := ⟨("SetRow", some "__init__"), "__init__", "SetRow.__init__", defArgs s_SetRow_init, defBody s_SetRow_init, defScope s_SetRow_init⟩
def hd_AskRow_init : He.FnD := ⟨("AskRow", some "__init__"), "__init__", "AskRow.__init__", defArgs s_AskRow_init, defBody s_AskRow_init, defScope s_AskRow_init⟩
def hd_TellRow_init : He.FnD := ⟨("TellRow", some "__init__"), "__init__", "TellRow.__init__", defArgs s_TellRow_init, defBody s_TellRow_init, defScope s_TellRow_init⟩
def hd_IfRow_init : He.FnD := ⟨("IfRow", some "__init__"), "__init__", "IfRow.__init__", defArgs s_IfRow_init, defBody s_IfRow_init, defScope s_IfRow_init⟩
def hd_WhileRow_init : He.FnD := ⟨("WhileRow", some "__init__"), "__init__", "WhileRow.__init__", defArgs s_WhileRow_init, defBody s_WhileRow_init, defScope s_WhileRow_init⟩
def hd_Helper_init : He.FnD := ⟨("Helper", some "__init__"), "__init__", "Helper.__init__", defArgs s_Helper_init, defBody s_Helper_init, defScope s_Helper_init⟩
def hd_Program_init : He.FnD := ⟨("Program", some "__init__"), "__init__", "Program.__init__", defArgs s_Program_init, defBody s_Program_init, defScope s_Program_init⟩
def hd_Teller_init : He.FnD := ⟨("Teller", some "__init__"), "__init__", "Teller.__init__", defArgs s_Teller_init, defBody s_Teller_init, defScope s_Teller_init⟩
def hd_World_init : He.FnD := ⟨("World", some "__init__"), "__init__", "World.__init__", defArgs s_World_init, defBody s_World_init, defScope s_World_init⟩
def hd_rows_of : He.FnD := ⟨("rows_of", none), "rows_of", "rows_of", defArgs s_rows_of, defBody s_rows_of, defScope s_rows_of⟩
def hd_block_of : He.FnD := ⟨("block_of", none), "block_of", "block_of", defArgs s_block_of, defBody s_block_of, defScope s_block_of⟩
def hd_row_of : He.FnD := ⟨("row_of", none), "row_of", "row_of", defArgs s_row_of, defBody s_row_of, defScope s_row_of⟩
def hd_Over_init : He.FnD := ⟨("Over", some "__init__"), "__init__", "Over.__init__", defArgs s_Over_init, defBody s_Over_init, defScope s_Over_init⟩
def hd_reckoned : He.FnD := ⟨("reckoned", none), "reckoned", "reckoned", defArgs s_reckoned, defBody s_reckoned, defScope s_reckoned⟩
def hd_Teller_ticked : He.FnD := ⟨("Teller", some "ticked"), "ticked", "Teller.ticked", defArgs s_Teller_ticked, defBody s_Teller_ticked, defScope s_Teller_ticked⟩
def hd_Teller_worth : He.FnD := ⟨("Teller", some "worth"), "worth", "Teller.worth", defArgs s_Teller_worth, defBody s_Teller_worth, defScope s_Teller_worth⟩
def hd_Teller_numbered : He.FnD := ⟨("Teller", some "numbered"), "numbered", "Teller.numbered", defArgs s_Teller_numbered, defBody s_Teller_numbered, defScope s_Teller_numbered⟩
def hd_Teller_blocked : He.FnD := ⟨("Teller", some "blocked"), "blocked", "Teller.blocked", defArgs s_Teller_blocked, defBody s_Teller_blocked, defScope s_Teller_blocked⟩
def hd_Teller_done : He.FnD := ⟨("Teller", some "done"), "done", "Teller.done", defArgs s_Teller_done, defBody s_Teller_done, defScope s_Teller_done⟩
def hd_Teller_went : He.FnD := ⟨("Teller", some "went"), "went", "Teller.went", defArgs s_Teller_went, defBody s_Teller_went, defScope s_Teller_went⟩
def hd_Teller_ran : He.FnD := ⟨("Teller", some "ran"), "ran", "Teller.ran", defArgs s_Teller_ran, defBody s_Teller_ran, defScope s_Teller_ran⟩
def hd_World_many : He.FnD := ⟨("World", some "many"), "many", "World.many", defArgs s_World_many, defBody s_World_many, defScope s_World_many⟩
def hd_run_of : He.FnD := ⟨("run_of", none), "run_of", "run_of", defArgs s_run_of, defBody s_run_of, defScope s_run_of⟩
def hd_told_of : He.FnD := ⟨("told_of", none), "told_of", "told_of", defArgs s_told_of, defBody s_told_of, defScope s_told_of⟩
def hd_world_of : He.FnD := ⟨("world_of", none), "world_of", "world_of", defArgs s_world_of, defBody s_world_of, defScope s_world_of⟩
def hd_l_draw : He.FnD := ⟨("_law_draw", none), "_law_draw", "_law_draw", defArgs s_l_draw, defBody s_l_draw, defScope s_l_draw⟩
def hd_l_pick : He.FnD := ⟨("_law_pick", none), "_law_pick", "_law_pick", defArgs s_l_pick, defBody s_l_pick, defScope s_l_pick⟩
def hd_l_made : He.FnD := ⟨("_law_made", none), "_law_made", "_law_made", defArgs s_l_made, defBody s_l_made, defScope s_l_made⟩
def hd_l_alike : He.FnD := ⟨("_law_alike", none), "_law_alike", "_law_alike", defArgs s_l_alike, defBody s_l_alike, defScope s_l_alike⟩
def hd_l_atom : He.FnD := ⟨("_law_atom", none), "_law_atom", "_law_atom", defArgs s_l_atom, defBody s_l_atom, defScope s_l_atom⟩
def hd_l_rows : He.FnD := ⟨("_law_rows", none), "_law_rows", "_law_rows", defArgs s_l_rows, defBody s_l_rows, defScope s_l_rows⟩
def hd_l_value : He.FnD := ⟨("_law_value", none), "_law_value", "_law_value", defArgs s_l_value, defBody s_l_value, defScope s_l_value⟩
def hd_l_number : He.FnD := ⟨("_law_number", none), "_law_number", "_law_number", defArgs s_l_number, defBody s_l_number, defScope s_l_number⟩
def hd_l_walk : He.FnD := ⟨("_law_walk", none), "_law_walk", "_law_walk", defArgs s_l_walk, defBody s_l_walk, defScope s_l_walk⟩
def hd_law : He.FnD := ⟨("law", none), "law", "law", defArgs s_law, defBody s_law, defScope s_law⟩
def hn0 : List He.FnD := [hd_SetRow_init, hd_AskRow_init, hd_TellRow_init, hd_IfRow_init, hd_WhileRow_init, hd_Helper_init, hd_Program_init, hd_Teller_init, hd_World_init, hd_rows_of, hd_block_of, hd_row_of, hd_Over_init, hd_reckoned, hd_Teller_ticked, hd_Teller_worth, hd_Teller_numbered, hd_Teller_blocked, hd_Teller_done, hd_Teller_went, hd_Teller_ran, hd_World_many, hd_run_of, hd_told_of, hd_world_of]
def hn1 : List He.FnD := [hd_l_draw, hd_l_pick, hd_l_made, hd_l_alike, hd_l_atom, hd_l_rows, hd_l_value, hd_l_number, hd_l_walk, hd_law]
def hfn : List He.FnD := hn0 ++ hn1
abbrev Al : Type := Bool × List He.FnV
def obsK (K : PySem.W.Frag) : Al := ((hfs.all fun f => f K) && hfn.all fun d => (He.Fa.code d.at_ d.qual).ok K, hfn.map fun d => He.fnObs K d.at_)
def valK : Al := (true, hfn.map He.FnD.val)
def SaysK (K : PySem.W.Frag) : Prop := obsK K = valK
/-- the objects that an object names, but for itself -/
def refsN (a : Addr) (o : Obj) : List Addr := match o.data with
  | .dict es _ => es.toList.flatMap fun e => He.refV e.val
  | .func fd => He.refV fd.code ++ He.refV fd.defaults
  | .cls cd => cd.ns :: (cd.mro.flatMap He.refV).filter fun b => !Nat.beq a b
  | _ => []
/-- what they reach in n steps, step by step; nothing is looked for twice -/
def goesN (g : Addr → Option Obj) : Nat → List Addr → List Addr
  | 0, as => as
  | n + 1, as => as ++ goesN g n (as.flatMap fun a => match g a with
    | some o => refsN a o
    | none => [])
def obsH (g : Addr → Option Obj) : Al := obsK (He.frG g (goesN g 4 [mainGlobals]))
def hk : PySem.W.Hook where
  α := Al
  obs := fun s => obsH s.heap.get?
  val := fun _ => valK
  says := fun _ h => ∃ K : PySem.W.Frag, K.In h ∧ SaysK K
  of := fun _ _ e => ⟨_, He.frG_in, e⟩
  keeps := fun _ _ _ ⟨K, hK, c⟩ k => ⟨K, PySem.W.Frag.In.keeps hK k, c⟩
theorem obsH_eq {g : Addr → Option Obj} {s : Shared} (h : ∀ a, g a = s.heap.get? a) : obsH g = hk.obs s := by
  have e : g = s.heap.get? := funext h
  rw [e] <;> rfl
def ob (s : PySem.W.SharedT) : Al := obsH (HandSHeadRun.getT s)
theorem ob_eq (s : PySem.W.SharedT) : ob s = hk.obs s.abs := obsH_eq (HandSHeadRun.getT_eq s)
theorem allApp {α : Type} {f : α → Bool} {l m : List α} (h : (l ++ m).all f = true) : l.all f = true ∧ m.all f = true := by
  rw [List.all_append] at h
  exact Bool.and_eq_true_iff.mp h
theorem saysF {K : PySem.W.Frag} (c : SaysK K) : hfs.all (fun f => f K) = true :=
  (He.ba (show ((hfs.all fun f => f K) && hfn.all fun d => (He.Fa.code d.at_ d.qual).ok K) = true from congrArg (fun z : Al => z.1) c)).1
theorem saysD {K : PySem.W.Frag} (c : SaysK K) {d : He.FnD} (hd : d ∈ hfn) :
    ∃ oc od osl kV doc pm an cdv ct, K.lookup (He.fAd K d.at_) = some ⟨oc, od, .func (PySem.W.fnOf d.name d.qual d.params d.body d.scope .none kV doc pm an cdv ct), osl⟩ ∧ PySem.W.codeIn K cdv d.qual = true := by
  have c2 := (He.ba (show ((hfs.all fun f => f K) && hfn.all fun d => (He.Fa.code d.at_ d.qual).ok K) = true from congrArg (fun z : Al => z.1) c)).2
  have e : hfn.map (fun d => He.fnObs K d.at_) = hfn.map He.FnD.val := congrArg (fun z : Al => z.2) c
  obtain ⟨i, hi⟩ := List.mem_iff_getElem?.mp hd
  have e2 : (hfn.map fun d => He.fnObs K d.at_)[i]? = (hfn.map He.FnD.val)[i]? := by rw [e]
  rw [List.getElem?_map, List.getElem?_map, hi] at e2
  exact He.fn_ok (Option.some.inj e2) (List.all_eq_true.mp c2 d hd)
theorem hfat0 {K : PySem.W.Frag} (c : SaysK K) : hf0.all (fun f => f K) = true := by
  have z := saysF c
  unfold hfs at z
  have z := (allApp z).1
  have z := (allApp z).1
  have z := (allApp z).1
  have z := (allApp z).1
  have z := (allApp z).1
  have z := (allApp z).1
  have z := (allApp z).1
  have z := (allApp z).1
  exact z
theorem hfact0 {K : PySem.W.Frag} (c : SaysK K) (i : Nat) {f : PySem.W.Frag → Bool} (h : hf0[i]? = some f := by rfl) : f K = true := List.all_eq_true.mp (hfat0 c) f (List.mem_of_getElem? h)
theorem hfat1 {K : PySem.W.Frag} (c : SaysK K) : hf1.all (fun f => f K) = true := by
  have z := saysF c
  unfold hfs at z
  have z := (allApp z).1
  have z := (allApp z).1
  have z := (allApp z).1
  have z := (allApp z).1
  have z := (allApp z).1
  have z := (allApp z).1
  have z := (allApp z).1
  exact (allApp z).2
theorem hfact1 {K : PySem.W.Frag} (c : SaysK K) (i : Nat) {f : PySem.W.Frag → Bool} (h : hf1[i]? = some f := by rfl) : f K = true := List.all_eq_true.mp (hfat1 c) f (List.mem_of_getElem? h)
theorem hfat2 {K : PySem.W.Frag} (c : SaysK K) : hf2.all (fun f => f K) = true := by
  have z := saysF c
  unfold hfs at z
  have z := (allApp z).1
  have z := (allApp z).1
  have z := (allApp z).1
  have z := (allApp z).1
  have z := (allApp z).1
  have z := (allApp z).1
  exact (allApp z).2
theorem hfact2 {K : PySem.W.Frag} (c : SaysK K) (i : Nat) {f : PySem.W.Frag → Bool} (h : hf2[i]? = some f := by rfl) : f K = true := List.all_eq_true.mp (hfat2 c) f (List.mem_of_getElem? h)
theorem hfat3 {K : PySem.W.Frag} (c : SaysK K) : hf3.all (fun f => f K) = true := by
  have z := saysF c
  unfold hfs at z
  have z := (allApp z).1
  have z := (allApp z).1
  have z := (allApp z).1
  have z := (allApp z).1
  have z := (allApp z).1
  exact (allApp z).2
theorem hfact3 {K : PySem.W.Frag} (c : SaysK K) (i : Nat) {f : PySem.W.Frag → Bool} (h : hf3[i]? = some f := by rfl) : f K = true := List.all_eq_true.mp (hfat3 c) f (List.mem_of_getElem? h)
theorem hfat4 {K : PySem.W.Frag} (c : SaysK K) : hf4.all (fun f => f K) = true := by
  have z := saysF c
  unfold hfs at z
  have z := (allApp z).1
  have z := (allApp z).1
  have z := (allApp z).1
  have z := (allApp z).1
  exact (allApp z).2
theorem hfact4 {K : PySem.W.Frag} (c : SaysK K) (i : Nat) {f : PySem.W.Frag → Bool} (h : hf4[i]? = some f := by rfl) : f K = true := List.all_eq_true.mp (hfat4 c) f (List.mem_of_getElem? h)
theorem hfat5 {K : PySem.W.Frag} (c : SaysK K) : hf5.all (fun f => f K) = true := by
  have z := saysF c
  unfold hfs at z
  have z := (allApp z).1
  have z := (allApp z).1
  have z := (allApp z).1
  exact (allApp z).2
theorem hfact5 {K : PySem.W.Frag} (c : SaysK K) (i : Nat) {f : PySem.W.Frag → Bool} (h : hf5[i]? = some f := by rfl) : f K = true := List.all_eq_true.mp (hfat5 c) f (List.mem_of_getElem? h)
theorem hfat6 {K : PySem.W.Frag} (c : SaysK K) : hf6.all (fun f => f K) = true := by
  have z := saysF c
  unfold hfs at z
  have z := (allApp z).1
  have z := (allApp z).1
  exact (allApp z).2
theorem hfact6 {K : PySem.W.Frag} (c : SaysK K) (i : Nat) {f : PySem.W.Frag → Bool} (h : hf6[i]? = some f := by rfl) : f K = true := List.all_eq_true.mp (hfat6 c) f (List.mem_of_getElem? h)
theorem hfat7 {K : PySem.W.Frag} (c : SaysK K) : hf7.all (fun f => f K) = true := by
  have z := saysF c
  unfold hfs at z
  have z := (allApp z).1
  exact (allApp z).2
theorem hfact7 {K : PySem.W.Frag} (c : SaysK K) (i : Nat) {f : PySem.W.Frag → Bool} (h : hf7[i]? = some f := by rfl) : f K = true := List.all_eq_true.mp (hfat7 c) f (List.mem_of_getElem? h)
theorem hfat8 {K : PySem.W.Frag} (c : SaysK K) : hf8.all (fun f => f K) = true := by
  have z := saysF c
  unfold hfs at z
  exact (allApp z).2
theorem hfact8 {K : PySem.W.Frag} (c : SaysK K) (i : Nat) {f : PySem.W.Frag → Bool} (h : hf8[i]? = some f := by rfl) : f K = true := List.all_eq_true.mp (hfat8 c) f (List.mem_of_getElem? h)
def nm0 : List PySem.Str := [(PySem.Str.ofString "_wall"), (PySem.Str.ofString "all_told"), (PySem.Str.ofString "Row"), (PySem.Str.ofString "SetRow"), (PySem.Str.ofString "MakeRow"), (PySem.Str.ofString "NoneRow"), (PySem.Str.ofString "GiveRow"), (PySem.Str.ofString "TakeRow"), (PySem.Str.ofString "FillRow"), (PySem.Str.ofString "SwapRow"), (PySem.Str.ofString "GetRow"), (PySem.Str.ofString "PutRow"), (PySem.Str.ofString "HasRow"), (PySem.Str.ofString "DropRow"), (PySem.Str.ofString "LendRow"), (PySem.Str.ofString "StepRow"), (PySem.Str.ofString "CallRow"), (PySem.Str.ofString "BackRow"), (PySem.Str.ofString "AskRow"), (PySem.Str.ofString "TellRow"), (PySem.Str.ofString "IfRow"), (PySem.Str.ofString "WhileRow"), (PySem.Str.ofString "rows_of"), (PySem.Str.ofString "block_of"), (PySem.Str.ofString "box_row_of"), (PySem.Str.ofString "row_of"), (PySem.Str.ofString "World"), (PySem.Str.ofString "PRIME"), (PySem.Str.ofString "Over"), (PySem.Str.ofString "reckoned"), (PySem.Str.ofString "path_by"), (PySem.Str.ofString "Teller"), (PySem.Str.ofString "run_of"), (PySem.Str.ofString "told_of"), (PySem.Str.ofString "world_of")]
def nm1 : List PySem.Str := [(PySem.Str.ofString "Record"), (PySem.Str.ofString "Helper"), (PySem.Str.ofString "Program"), (PySem.Str.ofString "_law_draw"), (PySem.Str.ofString "_law_pick"), (PySem.Str.ofString "_law_made"), (PySem.Str.ofString "_law_alike"), (PySem.Str.ofString "_law_atom"), (PySem.Str.ofString "_law_rows"), (PySem.Str.ofString "_law_value"), (PySem.Str.ofString "_law_number"), (PySem.Str.ofString "_law_walk")]
def nms : List PySem.Str := nm0 ++ nm1
abbrev R : PySem.W.OpenRow := PySem.W.OpenLaw.row PySem.Challenge.rw_holders_k52_numbers
abbrev qv : Program := PySem.W.view R.prog [52]
set_option maxHeartbeats 0 in
theorem run (w : World) : HandSHeadRun.RunEq R qv hk ob 20000 nms w := by
  intro os
  kernel_rfl
end My
section
open PySem PySem.W PySem.Calls PyProof.Rows
set_option maxRecDepth 100000 in
set_option maxHeartbeats 0 in
theorem skel_end (hfacts : ∀ (w : PySem.World) (K : PySem.W.Frag) (h : PySem.Heap) (mg : PySem.Str → Option PySem.Value) (fa : PySem.Addr), K.In h → h.Ns PySem.mainGlobals mg → mg ("law" : PySem.Str) = some (.ref fa) → My.SaysK K → ∃ fd : PySem.FuncData, (∀ (s : PySem.Shared) (v : PySem.Value), BindsTo s fd ⟨[v], []⟩ [(("_law_script" : PySem.Str), v)]) ∧ ∀ base : PySem.Heap, K.In base → base.Ns PySem.mainGlobals mg → L2.FnOk (PySem.W.OpenLaw.prog PySem.Challenge.rw_holders_k52_numbers) w K mg base L2.CX0 40 fa fd [("_law_script" : PySem.Str)] (My.spLaw K)) : PySem.Challenge.rw_holders_k52_numbers.Holds := by
  w_on; o_law
  refine HandSHeadRun.head_any (r := My.R) (q := My.qv) (H := My.hk) (ob := My.ob) (M := 20000) (loose := My.nms) (d := HandSHeadRun.topDef (OpenLaw.row PySem.Challenge.rw_holders_k52_numbers).prog 52) (kwd := []) My.ob_eq
    (by kernel_rfl) (fun s => by kernel_rfl) My.run (by kernel_rfl) (by kernel_rfl) (by kernel_rfl) (by rfl) (by first | assumption | decide +kernel) (by decide +kernel) ⟨rfl, rfl, rfl, rfl, rfl, by decide +kernel⟩ ?hw ?hc
  case hw => w_witness2
  case hc =>
    refine L2.walk_ofE (l := PySem.Challenge.rw_holders_k52_numbers) (n := 63) (k := 40) (x := "_law_script") (CX := L2.CX0) rfl (by decide) (by kernel_rfl) ⟨rfl, by decide, by decide⟩ ?F (fun _ _ _ _ z => z)
    intro w mg fa h Y G hmg0
    obtain ⟨K, KX, c⟩ := Y
    have hmg : mg ("law" : PySem.Str) = some (.ref fa) := by
      have e : (HandSHeadRun.topDef (OpenLaw.row PySem.Challenge.rw_holders_k52_numbers).prog 52).name = ("law" : PySem.Str) := by kernel_rfl
      rw [← e]
      exact hmg0
    obtain ⟨fd, hb, hF⟩ := hfacts w K _ _ _ KX G hmg c
    exact ⟨K, fd, My.spLaw K, KX, hb, fun H a ns hl _ hS => ⟨a, ns, rfl, hS, hl, fun _ => rfl⟩, hF⟩
end
namespace My
open PySem L2
/-! ### readings of dicts, fields, whiles -/
def kDisp (p : Addr) (ps : List (V × V)) (H2 : Hp) (Q : VK) : Prop := H2 p = some (.dK []) ∧ ∃ kvs : List (L2.Key × V), ps = kvs.map (fun kv => (kV kv.1, kv.2)) ∧ kvs.length ≤ 15 ∧ Q (.ref p) (upd H2 p (.dK (mergeK [] kvs)))
section
variable {K : PySem.W.Frag} {σ σ' : St} {H : Hp} {Q : VK}
def kDGet (x y : V) (H : Hp) (Q : VK) : Prop := ∃ a v, x = .ref a ∧ DGet H a y (some v) ∧ Q v H
theorem w_dget {td ty : TE} (h : td σ H fun x H1 => ty σ H1 fun y H2 => kDGet x y H2 Q) : tDGet td ty σ H Q := h
theorem w_dgetI {p : Addr} {l : List (L2.Key × V)} {n : Int} {v : V} (a : H p = some (.dK l)) (e : valV l (Sum.inl n) = some v) (h : Q v H) : kDGet (.ref p) (.int n) H Q := ⟨p, v, rfl, e ▸ DGet.k (k := Sum.inl n) a, h⟩
theorem w_dgetS {p : Addr} {l : List (L2.Key × V)} {n : Str} {v : V} (a : H p = some (.dK l)) (e : valV l (Sum.inr n) = some v) (h : Q v H) : kDGet (.ref p) (.str n) H Q := ⟨p, v, rfl, e ▸ DGet.k (k := Sum.inr n) a, h⟩
def kDIn (y x : V) (H : Hp) (Q : VK) : Prop := ∃ a o, x = .ref a ∧ DGet H a y o ∧ Q (.bl o.isSome) H
theorem w_din {td ty : TE} (h : ty σ H fun y H1 => td σ H1 fun x H2 => kDIn y x H2 Q) : tDIn ty td σ H Q := h
theorem w_dinI {p : Addr} {l : List (L2.Key × V)} {n : Int} (a : H p = some (.dK l)) (h : Q (.bl (valV l (Sum.inl n)).isSome) H) : kDIn (.int n) (.ref p) H Q := ⟨p, _, rfl, DGet.k (k := Sum.inl n) a, h⟩
def kDNotIn (y x : V) (H : Hp) (Q : VK) : Prop := ∃ a o, x = .ref a ∧ DGet H a y o ∧ Q (.bl (!o.isSome)) H
theorem w_dnin {td ty : TE} (h : ty σ H fun y H1 => td σ H1 fun x H2 => kDNotIn y x H2 Q) : tDNotIn ty td σ H Q := h
theorem w_dninI {p : Addr} {l : List (L2.Key × V)} {n : Int} (a : H p = some (.dK l)) (h : Q (.bl (!(valV l (Sum.inl n)).isSome)) H) : kDNotIn (.int n) (.ref p) H Q := ⟨p, _, rfl, DGet.k (k := Sum.inl n) a, h⟩
def kDPut (x y v : V) (H : Hp) (P : Hp → Prop) : Prop := ∃ a H4, x = .ref a ∧ DPut H a y v H4 ∧ P H4
theorem w_dput {td ty tv : TE} {D : Ends} (h : tv σ H fun v H1 => td σ H1 fun x H2 => ty σ H2 fun y H3 => kDPut x y v H3 (fun H4 => D.nx σ H4)) : sDPut td ty tv D σ H := h
theorem w_dputI {p : Addr} {l l' : List (L2.Key × V)} {n : Int} {v : V} {P : Hp → Prop} (a : H p = some (.dK l)) (z : l.length < sizeLine) (e : putK l (Sum.inl n) v = l') (h : ∀ H', Chg p (.dK l) (.dK l') H H' → P H') : kDPut (.ref p) (.int n) v H P := ⟨p, _, rfl, DPut.k (k := Sum.inl n) a z, h _ (e ▸ Chg.mk' a)⟩
theorem w_dputS {p : Addr} {l l' : List (L2.Key × V)} {n : Str} {v : V} {P : Hp → Prop} (a : H p = some (.dK l)) (z : l.length < sizeLine) (e : putK l (Sum.inr n) v = l') (h : ∀ H', Chg p (.dK l) (.dK l') H H' → P H') : kDPut (.ref p) (.str n) v H P := ⟨p, _, rfl, DPut.k (k := Sum.inr n) a z, h _ (e ▸ Chg.mk' a)⟩
def kDAug (tv : TE) (rd : R2) (x y : V) (σ : St) (H : Hp) (P : Hp → Prop) : Prop := kDGet x y H fun v H2 => tv σ H2 fun y2 H3 => rd v y2 H3 fun z H4 => kDPut x y z H4 P
theorem w_daug {td ty tv : TE} {rd : R2} {D : Ends} (h : td σ H fun x H1 => ty σ H1 fun y H2 => kDAug tv rd x y σ H2 (fun H4 => D.nx σ H4)) (mtd : ∀ Q Q' : VK, (∀ x H1, Q x H1 → Q' x H1) → td σ H Q → td σ H Q') (mty : ∀ H1 (Q Q' : VK), (∀ x H2, Q x H2 → Q' x H2) → ty σ H1 Q → ty σ H1 Q')
    (mtv : ∀ H1 (Q Q' : VK), (∀ x H2, Q x H2 → Q' x H2) → tv σ H1 Q → tv σ H1 Q') (mrd : ∀ x y H1 (Q Q' : VK), (∀ x H2, Q x H2 → Q' x H2) → rd x y H1 Q → rd x y H1 Q') : sDAug td ty tv rd D σ H := by
  refine mtd _ _ (fun x H1 q => mty _ _ _ (fun y H2 q2 => ?_) q) h
  obtain ⟨a, v, rfl, g, q3⟩ := q2
  refine ⟨a, v, rfl, g, mtv _ _ _ (fun y2 H3 q4 => mrd _ _ _ _ _ (fun z H4 q5 => ?_) q4) q3⟩
  obtain ⟨b, H5, e, p, q6⟩ := q5
  cases e
  exact ⟨H5, p, q6⟩
def kDGet1 (x y : V) (H : Hp) (Q : VK) : Prop := ∃ a o, x = .ref a ∧ DGet H a y o ∧ Q (o.getD .non) H
def kIsD (x : V) (H : Hp) : Prop := ∃ a, x = .ref a ∧ IsD H a
theorem w_isD {p : Addr} {l : List (L2.Key × V)} (a : H p = some (.dK l)) : kIsD (.ref p) H := ⟨p, rfl, .inl ⟨l, .inl a⟩⟩
theorem w_dget1 {td ty : TE} (h : td σ H fun x H1 => ∃ a, x = .ref a ∧ IsD H1 a ∧ ty σ H1 fun y H2 => ∃ o, DGet H2 a y o ∧ Q (o.getD .non) H2) : tDGet1 td ty σ H Q := h
theorem w_dget1a {p : Addr} {l : List (L2.Key × V)} {ty : TE} (a : H p = some (.dK l)) (h : ty σ H fun y H2 => kDGet1 (.ref p) y H2 Q) (m : ∀ Q Q' : VK, (∀ x H2, Q x H2 → Q' x H2) → ty σ H Q → ty σ H Q') : ∃ a, V.ref p = .ref a ∧ IsD H a ∧ ty σ H fun y H2 => ∃ o, DGet H2 a y o ∧ Q (o.getD .non) H2 := by
  refine ⟨p, rfl, .inl ⟨l, .inl a⟩, m _ _ (fun y H2 q => ?_) h⟩
  obtain ⟨b, o, e, g, q⟩ := q
  cases e
  exact ⟨o, g, q⟩
theorem w_isDa {p : Addr} {l : List (L2.Key × V)} {B : Addr → Prop} (a : H p = some (.dK l)) (h : B p) : ∃ a, V.ref p = .ref a ∧ IsD H a ∧ B a := ⟨p, rfl, .inl ⟨l, .inl a⟩, h⟩
theorem w_dpop1 {td ty : TE} (h : td σ H fun x H1 => ∃ a, x = .ref a ∧ IsD H1 a ∧ ty σ H1 fun y H2 => ∃ kvs k v, H2 a = some (.dK kvs) ∧ y = kV k ∧ valV kvs k = some v ∧ Q v (upd H2 a (.dK (dropK kvs k)))) : tDPop1 td ty σ H Q := h
theorem w_dpopI {p : Addr} {l l' : List (L2.Key × V)} {n : Int} {v : V} {R : V → Hp → Prop} (a : H p = some (.dK l)) (e : valV l (Sum.inl n) = some v) (d : dropK l (Sum.inl n) = l') (h : ∀ H', Chg p (.dK l) (.dK l') H H' → R v H') :
    ∃ (kvs : List (L2.Key × V)) (k : L2.Key) (v' : V), H p = some (.dK kvs) ∧ V.int n = kV k ∧ valV kvs k = some v' ∧ R v' (upd H p (.dK (dropK kvs k))) := ⟨l, Sum.inl n, v, a, rfl, e, h _ (d ▸ Chg.mk' a)⟩
theorem w_rNe {x y : V} (s : scal x y = true) (h : Q (.bl (!decide (x = y))) H) : rNe x y H Q := ⟨s, h⟩
theorem w_dget1I {p : Addr} {l : List (L2.Key × V)} {n : Int} {B : Option V → Prop} (a : H p = some (.dK l)) (h : B (valV l (Sum.inl n))) : ∃ o, DGet H p (.int n) o ∧ B o := ⟨_, DGet.k (k := Sum.inl n) a, h⟩
/-- x.f op= e -/
def kAug2 (a C : Addr) (f : Str) (z : V) (H : Hp) (P : Hp → Prop) : Prop := ∃ dx' fs', H a = some (.ins C dx' fs') ∧ fs'.length < 1000 ∧ P (upd H a (.ins C dx' (putF f z fs')))
theorem w_fldaug {ta tv : TE} {rd : R2} {f : Str} {D : Ends} (h : ta σ H fun x H1 => ∃ a C dx fs v, x = .ref a ∧ H1 a = some (.ins C dx fs) ∧ Cls K C ∧ NoAttr K C f ∧ fs.lookup f = some v ∧
  tv σ H1 fun y H2 => rd v y H2 fun z H3 => kAug2 a C f z H3 (fun H4 => D.nx σ H4)) : sFldAug K ta tv rd f D σ H := h
theorem w_fldaug1 {a C dx : Addr} {fs : List (Str × V)} {v : V} {f : Str} {B : Addr → Addr → V → Prop} (i : H a = some (.ins C dx fs)) (c : Cls K C) (n : NoAttr K C f) (l : fs.lookup f = some v) (h : B a C v) : ∃ a' C' dx' fs' v', V.ref a = .ref a' ∧ H a' = some (.ins C' dx' fs') ∧ Cls K C' ∧ NoAttr K C' f ∧ fs'.lookup f = some v' ∧ B a' C' v' := ⟨a, C, dx, fs, v, rfl, i, c, n, l, h⟩
theorem w_fldaug2 {a C dx : Addr} {fs : List (Str × V)} {z : V} {f : Str} {P : Hp → Prop} (i : H a = some (.ins C dx fs)) (l : fs.length < 1000) (h : ∀ H', Chg a (.ins C dx fs) (.ins C dx (putF f z fs)) H H' → P H') : kAug2 a C f z H P := ⟨dx, fs, i, l, h _ (Chg.mk' i)⟩
theorem w_disp {trs : List (TE × TE)} (h : ∀ p H1, New p (.dK []) H H1 → tPairs trs σ H1 fun ps H2 => kDisp p ps H2 Q) : tDisp trs σ H Q := by
  intro p hp
  exact h p _ (New.mk' hp)
theorem w_kdisp {p : Addr} {ps : List (V × V)} {l' : List (L2.Key × V)} (kvs : List (L2.Key × V)) (a : H p = some (.dK [])) (e : ps = kvs.map fun kv => (kV kv.1, kv.2)) (z : kvs.length ≤ 15) (m : mergeK [] kvs = l') (h : ∀ H', Chg p (.dK []) (.dK l') H H' → Q (.ref p) H') : kDisp p ps H Q := ⟨a, kvs, e, z, h _ (m ▸ Chg.mk' a)⟩
theorem w_pair {tk tv : TE} {trs : List (TE × TE)} {Q : List (V × V) → Hp → Prop} (h : tk σ H fun k H1 => tv σ H1 fun v H2 => tPairs trs σ H2 fun ps H3 => Q ((k, v) :: ps) H3) : tPairs ((tk, tv) :: trs) σ H Q := h
theorem w_pair0 {Q : List (V × V) → Hp → Prop} (h : Q [] H) : tPairs [] σ H Q := h
theorem w_dnewK (h : ∀ p H', New p (.dK []) H H' → Q (.ref p) H') : tDNewK σ H Q := fun d hd => h d _ (New.mk' hd)
theorem w_ipI {f : Int → Int → Int} {i j : Int} (h : Q (.int (f i j)) H) : ipI f (.int i) (.int j) H Q := ⟨i, j, rfl, rfl, h⟩
theorem w_radd {i j : Int} (h : Q (.int (i + j)) H) : rAdd (.int i) (.int j) H Q := ⟨i, j, rfl, rfl, h⟩
theorem w_rsub {i j : Int} (h : Q (.int (i - j)) H) : rSub (.int i) (.int j) H Q := ⟨i, j, rfl, rfl, h⟩
theorem w_gUnl {n : Nat} {t : TGs} {p : Addr} {xs : List V} {Q : St → Hp → Prop} (a : H p = some (.lst xs)) (e : xs.length = n) (h : t xs σ H Q) : gUnl K n t (.ref p) σ H Q := ⟨p, xs, rfl, SqL.of a, e, h⟩
theorem w_eqNil {a b : Addr} {xs : List V} (h1 : H a = some (.lst xs)) (h2 : H b = some (.lst [])) (h : Q (.bl xs.isEmpty) H) : rEqNil (.ref a) (.ref b) H Q := ⟨a, b, xs, rfl, rfl, h1, h2, h⟩
theorem w_neNil {a b : Addr} {xs : List V} (h1 : H a = some (.lst xs)) (h2 : H b = some (.lst [])) (h : Q (.bl (!xs.isEmpty)) H) : rNeNil (.ref a) (.ref b) H Q := ⟨a, b, xs, rfl, rfl, h1, h2, h⟩
theorem w_pop {l : Addr} {xs : List V} {y : V} (a : H l = some (.lst xs)) (e : xs[xs.length - 1]? = some y) (h : ∀ H', Chg l (.lst xs) (.lst xs.dropLast) H H' → Q y H') : rPop (.ref l) [] H Q := ⟨l, xs, y, rfl, rfl, a, e, h _ (Chg.mk' a)⟩
theorem w_pop0 {l : Addr} {x : V} {xs : List V} (a : H l = some (.lst (x :: xs))) (h : ∀ H', Chg l (.lst (x :: xs)) (.lst xs) H H' → Q x H') : rPopAt (.ref l) [.int 0] H Q := by
  refine ⟨l, x :: xs, 0, 0, x, rfl, rfl, a, by decide, by decide, ?_, rfl, h _ (Chg.mk' a)⟩
  simp [seqIndex?]
theorem w_ext2 {l b : Addr} {xs zs : List V} (h1 : H l = some (.lst xs)) (h2 : H b = some (.lst zs)) (sz : xs.length + zs.length ≤ sizeLine) (h : ∀ H', Chg l (.lst xs) (.lst (xs ++ zs)) H H' → Q (.ref l) H') : rExt2 (.ref l) (.ref b) H Q := ⟨l, b, xs, zs, rfl, rfl, h1, h2, sz, h _ (Chg.mk' h1)⟩
theorem w_makeN {C : Addr} (h : ∀ x dx H', x ≠ dx → New x (.ins C dx []) H H' → Q (.ref x) H') : tMakeN C σ H Q := fun x dx hx hd hne => h x dx _ (Ne.symm hne) ⟨hx, upd_same, same_made hx hd⟩
theorem w_chain {r r' : R2} {ta tb tc : TE} (h : ta σ H fun x H1 => tb σ H1 fun y H2 => r x y H2 fun z H3 => ∃ k, z = .bl k ∧ (if k = true then tc σ H3 fun w' H4 => r' y w' H4 Q else Q (.bl false) H3)) : tChain r r' ta tb tc σ H Q := h
theorem w_methAt {C : Addr} {m : Str} {sp : Sp} {E : St → XK} {ta : TE} {t : TA} (h : ta σ H fun x H1 => ∃ a dx fs, x = .ref a ∧ H1 a = some (.ins C dx fs) ∧ fs.lookup m = none ∧ t σ H1 fun vs H2 => sp (x :: vs) H2 Q (E σ)) : tMethAt C m sp E ta t σ H Q := h
theorem w_update {d b : Addr} {xs zs l' : List (L2.Key × V)} (h0 : d ≠ b) (h1 : H d = some (.dK xs)) (h2 : H b = some (.dK zs)) (sz : xs.length + zs.length ≤ sizeLine) (e : mergeK xs zs = l') (h : ∀ H', Chg d (.dK xs) (.dK l') H H' → Q .non H') : rUpdate (.ref d) [.ref b] H Q := ⟨d, b, xs, zs, rfl, rfl, h0, h1, h2, sz, h _ (e ▸ Chg.mk' h1)⟩
theorem w_tyD {p : Addr} {xs : List (L2.Key × V)} {B : Prop} (a : H p = some (.dK xs)) (h : B) : tyV K "dict" (.ref p) H ∧ B := ⟨.inr (.inr (.inl ⟨rfl, .inl ⟨_, a⟩⟩)), h⟩
theorem w_iEnum {ta : TA} {R : It → Hp → Prop} (h : ta σ H fun vs H1 => ∃ a xs, vs = [.ref a] ∧ SqL K H1 a xs ∧ R (Ite K a) H1) : iEnum K ta σ H R := h
theorem w_iEnum1 {p : Addr} {xs : List V} {R : Addr → Prop} (a : H p = some (.lst xs)) (h : R p) : ∃ a' ys, [V.ref p] = [.ref a'] ∧ SqL K H a' ys ∧ R a' := ⟨p, xs, rfl, SqL.of a, h⟩
theorem w_iEnumT {ta : TA} {R : It → Hp → Prop} (h : ta σ H fun vs H1 => ∃ a xs, vs = [.ref a] ∧ SqT K H1 a xs ∧ R (IteT K a) H1) : iEnumT K ta σ H R := h
theorem w_iEnumT1 {p : Addr} {xs : List V} {R : Addr → Prop} (a : H p = some (.tup xs)) (h : R p) : ∃ a' ys, [V.ref p] = [.ref a'] ∧ SqT K H a' ys ∧ R a' := ⟨p, xs, rfl, SqT.of a, h⟩
theorem w_max {i j : Int} {P : Int → Int → Prop} (h : P i j) : ∃ i' j', [V.int i, V.int j] = [.int i', .int j'] ∧ P i' j' := ⟨i, j, rfl, h⟩
end
section
variable {K : PySem.W.Frag} {a : Addr} {xs : List V} {g : TG} {tb : TS} {D : Ends} {σ : St} {H : Hp} {Q : VK}
theorem k_forET (xs : List V) (Pv : Nat → St → Hp → Prop) (h0 : Pv 0 σ H) (hl : ∀ i σ H, i ≤ xs.length → Pv i σ H → SqT K H a xs)
    (hs : ∀ i x σ H H1 T, xs[i]? = some x → Pv i σ H → New T (.tup [.int (i : Nat), x]) H H1 → g (.ref T) σ H1 fun σ2 H2 => tb { D with nx := Pv (i + 1), ct := Pv (i + 1), bk := D.nx } σ2 H2) (hd : ∀ σ H, Pv xs.length σ H → D.nx σ H) : kFor (IteT K a) g tb D σ H := by
  refine ⟨fun i m σ H => m = xs.length - i ∧ i ≤ xs.length ∧ Pv i σ H, ⟨_, rfl, Nat.zero_le _, h0⟩, ?_⟩
  rintro i m σ H ⟨rfl, hi, p⟩
  have q := hl i σ H hi p
  by_cases hlt : i < xs.length
  · refine .inr ⟨⟨xs, xs[i], q, by simp [hlt]⟩, Pv (i + 1), fun σ' H' p' => ⟨xs.length - (i + 1), by omega, rfl, hlt, p'⟩, fun v H' y => ?_⟩
    obtain ⟨T, x, rfl, hT, rfl, hx⟩ := y
    exact hs i x σ H _ T (hx _ q) p (New.mk' hT)
  · have e : i = xs.length := by omega
    subst e
    exact .inl ⟨⟨xs, q, Nat.le_refl _⟩, hd σ H p⟩
theorem k_lcE {tt : TT} {te : TE} {vs : List Nat} (xs : List V) (Pv : Addr → Nat → Hp → Prop) (h0 : ∀ D H', New D (.lst []) H H' → Pv D 0 H') (hl : ∀ D i H, i ≤ xs.length → Pv D i H → SqL K H a xs)
    (hs : ∀ D, H D = none → ∀ i x T H2 H3, xs[i]? = some x → Pv D i H2 → New T (.tup [.int (i : Nat), x]) H2 H3 → kTurn g tt te vs σ D (.ref T) H3 (Pv D (i + 1))) (hd : ∀ D, H D = none → ∀ H2, Pv D xs.length H2 → Q (.ref D) H2) : kLc (Ite K a) g tt te vs σ H Q := by
  intro D hD
  refine ⟨fun i m H2 => m = xs.length - i ∧ i ≤ xs.length ∧ Pv D i H2, ⟨xs.length, by simp, Nat.zero_le _, h0 D _ (New.mk' hD)⟩, ?_⟩
  rintro i m H2 ⟨rfl, hi, p⟩
  have q := hl D i H2 hi p
  by_cases hlt : i < xs.length
  · refine .inr ⟨⟨xs, xs[i], q, by simp [hlt]⟩, Pv D (i + 1), fun H' p' => ⟨xs.length - (i + 1), by omega, rfl, hlt, p'⟩, fun v H' y => ?_⟩
    obtain ⟨T, x, rfl, hT, rfl, hx⟩ := y
    exact hs D hD i x T H2 _ (hx _ q) p (New.mk' hT)
  · have e : i = xs.length := by omega
    subst e
    exact .inl ⟨⟨xs, q, Nat.le_refl _⟩, hd D hD H2 p⟩
end
/-! ### what one owns -/
abbrev Reg := List (Addr × HO)
def keys (r : Reg) : List Addr := r.map (·.1)
structure Own (H0 H : Hp) (r : Reg) : Prop where
  same : Same H0 H
  all : ∀ e ∈ r, H e.1 = some e.2
  nd : (keys r).Nodup
  fresh : ∀ a ∈ keys r, H0 a = none
/-- what stands, but these -/
def Only (F : List Addr) (H H' : Hp) : Prop := ∀ b o, H b = some o → b ∉ F → H' b = some o
theorem Only.refl (F : List Addr) (H : Hp) : Only F H H := fun _ _ e _ => e
theorem Only.same {F : List Addr} {H H1 H2 : Hp} (o : Only F H H1) (s : Same H1 H2) : Only F H H2 := fun b u e m => s _ _ (o b u e m)
theorem Only.chg {F : List Addr} {H H1 H2 : Hp} {q : Addr} {a b : HO} (o : Only F H H1) (c : Chg q a b H1 H2) (hq : q ∈ F) : Only F H H2 := fun x u e m => c.but _ _ (o x u e m) (fun z => m (z ▸ hq))
theorem Only.trans {F : List Addr} {H H1 H2 : Hp} (o : Only F H H1) (p : Only F H1 H2) : Only F H H2 := fun b u e m => p b u (o b u e m) m
theorem Only.mono {F G : List Addr} {H H' : Hp} (o : Only F H H') (s : ∀ a ∈ F, a ∈ G) : Only G H H' := fun b u e m => o b u e fun z => m (s b z)
section
variable {H0 H H' : Hp} {r r' : Reg} {q : Addr} {a b : HO}
theorem Own.get (o : Own H0 H r) {q : Addr} {u : HO} (h : (q, u) ∈ r) : H q = some u := o.all _ h
theorem Own.step (o : Own H0 H r) (s : Same H H') : Own H0 H' r := ⟨o.same.trans s, fun e he => s _ _ (o.all e he), o.nd, o.fresh⟩
theorem keys_uniq : ∀ {r : Reg}, (keys r).Nodup → ∀ {p : Addr} {u v : HO}, (p, u) ∈ r → (p, v) ∈ r → u = v
  | [], _, _, _, _, h, _ => by cases h
  | (x, w) :: r, nd, p, u, v, h, g => by
    have nd' : x ∉ keys r ∧ (keys r).Nodup := List.nodup_cons.mp nd
    rcases List.mem_cons.mp h with h | h <;> rcases List.mem_cons.mp g with g | g
    · cases h
      cases g
      rfl
    · cases h
      exact absurd (List.mem_map_of_mem (f := (·.1)) g) nd'.1
    · cases g
      exact absurd (List.mem_map_of_mem (f := (·.1)) h) nd'.1
    · exact keys_uniq nd'.2 h g
theorem Own.chg (o : Own H0 H r) (c : Chg q a b H H') (hk : keys r' = keys r) (hb : (q, b) ∈ r') (hd : ∀ e ∈ r', e ∈ r ∨ e = (q, b)) : Own H0 H' r' := by
  have nd : (keys r').Nodup := hk ▸ o.nd
  have hq : H0 q = none := o.fresh q (hk ▸ List.mem_map_of_mem (f := (·.1)) hb)
  refine ⟨c.sameOwn o.same hq, fun e he => ?_, nd, fun x hx => o.fresh x (hk ▸ hx)⟩
  obtain ⟨p, u⟩ := e
  by_cases hp : p = q
  · subst hp
    cases keys_uniq nd he hb
    exact c.at_
  · rcases hd _ he with h | h
    · exact c.but _ _ (o.all _ h) hp
    · cases h
      exact absurd rfl hp
theorem Own.new {p : Addr} {u : HO} (o : Own H0 H r) (n : New p u H H') : Own H0 H' ((p, u) :: r) := by
  have o2 := o.step n.same
  have hp : p ∉ keys r := fun h => by
    obtain ⟨e, he, rfl⟩ := List.mem_map.mp h
    have := o.all e he
    rw [n.free] at this
    cases this
  refine ⟨o2.same, fun e he => ?_, List.nodup_cons.mpr ⟨hp, o.nd⟩, fun x hx => ?_⟩
  · rcases List.mem_cons.mp he with rfl | he
    · exact n.at_
    · exact o2.all e he
  · rcases List.mem_cons.mp hx with rfl | hx
    · exact o.same.free n.free
    · exact o.fresh x hx
theorem Own.sub (o : Own H0 H r) (s : List.Sublist r' r) : Own H0 H r' := ⟨o.same, fun e he => o.all e (s.subset he), (s.map _).nodup o.nd, fun x hx => o.fresh x ((s.map _).subset hx)⟩
theorem Own.perm (o : Own H0 H r) (s : r'.Perm r) : Own H0 H r' := ⟨o.same, fun e he => o.all e (s.subset he), (s.map _).nodup_iff.mpr o.nd, fun x hx => o.fresh x ((s.map _).subset hx)⟩
theorem Own.part {r1 r2 : Reg} (o : Own H0 H (r1 ++ r2)) (p : Own H0 H' r') (hk : keys r' = keys r1) (n : Only (keys r1) H H') : Own H0 H' (r' ++ r2) := by
  have nd := o.nd
  unfold keys at nd hk n
  rw [List.map_append, List.nodup_append] at nd
  refine ⟨p.same, fun e he => ?_, ?_, fun x hx => ?_⟩
  · rcases List.mem_append.mp he with he | he
    · exact p.all e he
    · exact n _ _ (o.all e (List.mem_append_right _ he)) fun z => nd.2.2 _ z _ (List.mem_map_of_mem he) rfl
  · unfold keys
    rw [List.map_append, hk, List.nodup_append]
    exact nd
  · unfold keys at hx
    rw [List.map_append, List.mem_append] at hx
    rcases hx with hx | hx
    · exact p.fresh x hx
    · exact o.fresh x (by unfold keys; rw [List.map_append]; exact List.mem_append_right _ hx)
theorem Own.fst {r1 r2 : Reg} (o : Own H0 H (r1 ++ r2)) : Own H0 H r1 := o.sub (List.sublist_append_left _ _)
theorem Own.snd {r1 r2 : Reg} (o : Own H0 H (r1 ++ r2)) : Own H0 H r2 := o.sub (List.sublist_append_right _ _)
theorem Own.alive (o : Own H0 H r) {x : Addr} (h : x ∈ keys r) : ∃ u, H x = some u := by
  obtain ⟨e, he, rfl⟩ := List.mem_map.mp h
  exact ⟨_, o.all e he⟩
/-- owned by itself, seen from a later base -/
theorem Own.only (o : Own H0 H r) (n : Only (keys r) H H') : Same H0 H' := fun x u e => n x u (o.same x u e) fun z => by
  rw [o.fresh x z] at e
  cases e
end
theorem Own.base {H00 H0 H : Hp} {r : Reg} (o : Own H0 H r) (s : Same H00 H0) : Own H00 H r := ⟨s.trans o.same, o.all, o.nd, fun a h => s.free (o.fresh a h)⟩
theorem Own.join {H0 H H' : Hp} {r r' : Reg} (o : Own H0 H r) (p : Own H H' r') : Own H0 H' (r' ++ r) := by
  refine ⟨o.same.trans p.same, fun e he => ?_, ?_, fun x hx => ?_⟩
  · rcases List.mem_append.mp he with he | he
    · exact p.all e he
    · exact p.same _ _ (o.all e he)
  · unfold keys
    rw [List.map_append, List.nodup_append]
    refine ⟨p.nd, o.nd, fun a ha b hb e => ?_⟩
    subst e
    obtain ⟨u, hu⟩ := o.alive hb
    have := p.fresh a ha
    rw [hu] at this
    cases this
  · unfold keys at hx
    rw [List.map_append, List.mem_append] at hx
    rcases hx with hx | hx
    · exact o.same.free (p.fresh x hx)
    · exact o.fresh x hx
theorem Own.nil {H H' : Hp} (s : Same H H') : Own H H' [] := ⟨s, fun e he => absurd he List.not_mem_nil, List.nodup_nil, fun a ha => absurd ha List.not_mem_nil⟩
theorem Only.ofSame {F : List Addr} {H H' : Hp} (s : Same H H') : Only F H H' := fun b u e _ => s b u e
theorem Own.at {H0 H H' : Hp} {l1 l2 : Reg} {q : Addr} {a b c : HO} (o : Own H0 H (l1 ++ (q, a) :: l2)) (k : Chg q c b H H') : Own H0 H' (l1 ++ (q, b) :: l2) := by
  refine o.chg k (by simp [keys]) (by simp) fun e he => ?_
  simp only [List.mem_append, List.mem_cons] at he ⊢
  rcases he with h | h | h
  · exact .inl (.inl h)
  · exact .inr h
  · exact .inl (.inr (.inr h))
local macro_rules | `(tactic| walk_at "ne") => `(tactic| first
  | assumption
  | exact Ne.symm (by assumption)
  | exact New.ne (by assumption) (by walk_at "look1")
  | exact Ne.symm (New.ne (by assumption) (by walk_at "look1")))
local macro_rules | `(tactic| walk_at "ne1") => `(tactic| first
  | assumption
  | exact Ne.symm (by assumption)
  | exact New.ne (by assumption) (by walk_at "look2")
  | exact Ne.symm (New.ne (by assumption) (by walk_at "look2")))
local macro_rules | `(tactic| walk_at "ne2") => `(tactic| first
  | assumption
  | exact Ne.symm (by assumption)
  | exact New.ne (by assumption) (by walk_at "look3")
  | exact Ne.symm (New.ne (by assumption) (by walk_at "look3")))
local macro_rules | `(tactic| walk_at "ne3") => `(tactic| first
  | assumption
  | exact Ne.symm (by assumption)
  | exact New.ne (by assumption) (by walk_at "look4")
  | exact Ne.symm (New.ne (by assumption) (by walk_at "look4")))
local macro_rules | `(tactic| walk_at "ne4") => `(tactic| first
  | assumption
  | exact Ne.symm (by assumption)
  | exact New.ne (by assumption) (by walk_at "look5")
  | exact Ne.symm (New.ne (by assumption) (by walk_at "look5")))
local macro_rules | `(tactic| walk_at "ne5") => `(tactic| first
  | assumption
  | exact Ne.symm (by assumption)
  | exact New.ne (by assumption) (by walk_at "look6")
  | exact Ne.symm (New.ne (by assumption) (by walk_at "look6")))
local macro_rules | `(tactic| walk_at "ne6") => `(tactic| first
  | assumption
  | exact Ne.symm (by assumption)
  | exact New.ne (by assumption) (by walk_at "look7")
  | exact Ne.symm (New.ne (by assumption) (by walk_at "look7")))
local macro_rules | `(tactic| walk_at "ne7") => `(tactic| first
  | assumption
  | exact Ne.symm (by assumption)
  | exact New.ne (by assumption) (by walk_at "look8")
  | exact Ne.symm (New.ne (by assumption) (by walk_at "look8")))
local macro_rules | `(tactic| walk_at "ne8") => `(tactic| first
  | assumption
  | exact Ne.symm (by assumption)
  | exact New.ne (by assumption) (by walk_at "look9")
  | exact Ne.symm (New.ne (by assumption) (by walk_at "look9")))
local macro_rules | `(tactic| walk_at "ne9") => `(tactic| first
  | assumption
  | exact Ne.symm (by assumption)
  | exact New.ne (by assumption) (by walk_at "look10")
  | exact Ne.symm (New.ne (by assumption) (by walk_at "look10")))
local macro_rules | `(tactic| walk_at "ne10") => `(tactic| first
  | assumption
  | exact Ne.symm (by assumption)
  | exact New.ne (by assumption) (by walk_at "look11")
  | exact Ne.symm (New.ne (by assumption) (by walk_at "look11")))
local macro_rules | `(tactic| walk_at "ne11") => `(tactic| first
  | assumption
  | exact Ne.symm (by assumption)
  | exact New.ne (by assumption) (by walk_at "look12")
  | exact Ne.symm (New.ne (by assumption) (by walk_at "look12")))
local macro_rules | `(tactic| walk_at "ne12") => `(tactic| first
  | assumption
  | exact Ne.symm (by assumption)
  | exact New.ne (by assumption) (by walk_at "look13")
  | exact Ne.symm (New.ne (by assumption) (by walk_at "look13")))
local macro_rules | `(tactic| walk_at "ne13") => `(tactic| first
  | assumption
  | exact Ne.symm (by assumption)
  | exact New.ne (by assumption) (by walk_at "look14")
  | exact Ne.symm (New.ne (by assumption) (by walk_at "look14")))
local macro_rules | `(tactic| walk_at "ne14") => `(tactic| first
  | assumption
  | exact Ne.symm (by assumption)
  | exact New.ne (by assumption) (by walk_at "look15")
  | exact Ne.symm (New.ne (by assumption) (by walk_at "look15")))
local macro_rules | `(tactic| walk_at "ne15") => `(tactic| first
  | assumption
  | exact Ne.symm (by assumption)
  | exact New.ne (by assumption) (by walk_at "look16")
  | exact Ne.symm (New.ne (by assumption) (by walk_at "look16")))
local macro_rules | `(tactic| walk_at "ne16") => `(tactic| first
  | assumption
  | exact Ne.symm (by assumption)
  | exact New.ne (by assumption) (by walk_at "look17")
  | exact Ne.symm (New.ne (by assumption) (by walk_at "look17")))
local macro_rules | `(tactic| walk_at "ne17") => `(tactic| first
  | assumption
  | exact Ne.symm (by assumption)
  | exact New.ne (by assumption) (by walk_at "look18")
  | exact Ne.symm (New.ne (by assumption) (by walk_at "look18")))
local macro_rules | `(tactic| walk_at "ne18") => `(tactic| first
  | assumption
  | exact Ne.symm (by assumption)
  | exact New.ne (by assumption) (by walk_at "look19")
  | exact Ne.symm (New.ne (by assumption) (by walk_at "look19")))
local macro_rules | `(tactic| walk_at "ne19") => `(tactic| first
  | assumption
  | exact Ne.symm (by assumption)
  | exact New.ne (by assumption) (by walk_at "look20")
  | exact Ne.symm (New.ne (by assumption) (by walk_at "look20")))
local macro_rules | `(tactic| walk_at "ne20") => `(tactic| first
  | assumption
  | exact Ne.symm (by assumption)
  | exact New.ne (by assumption) (by walk_at "look21")
  | exact Ne.symm (New.ne (by assumption) (by walk_at "look21")))
local macro_rules | `(tactic| walk_at "ne21") => `(tactic| first
  | assumption
  | exact Ne.symm (by assumption)
  | exact New.ne (by assumption) (by walk_at "look22")
  | exact Ne.symm (New.ne (by assumption) (by walk_at "look22")))
local macro_rules | `(tactic| walk_at "ne22") => `(tactic| first
  | assumption
  | exact Ne.symm (by assumption)
  | exact New.ne (by assumption) (by walk_at "look23")
  | exact Ne.symm (New.ne (by assumption) (by walk_at "look23")))
local macro_rules | `(tactic| walk_at "ne23") => `(tactic| first
  | assumption
  | exact Ne.symm (by assumption)
  | exact New.ne (by assumption) (by walk_at "look24")
  | exact Ne.symm (New.ne (by assumption) (by walk_at "look24")))
local macro_rules | `(tactic| walk_at "ne24") => `(tactic| assumption)
local macro_rules | `(tactic| walk_at "look") => `(tactic| first
  | assumption
  | exact New.at_ (by assumption)
  | exact Chg.at_ (by assumption)
  | exact New.get (by assumption) (by walk_at "look1")
  | exact Chg.getK (by assumption) (by walk_at "look1") (by exact rfl)
  | exact Chg.get (by assumption) (by walk_at "look1") (by walk_at "ne1")
  | exact sameGet (by assumption) (by walk_at "look1")
  | exact sbutGet (by assumption) (by walk_at "look1") (by walk_at "ne1")
  | exact keepGet (by assumption) (by walk_at "look1") trivial)
local macro_rules | `(tactic| walk_at "look1") => `(tactic| first
  | assumption
  | exact New.at_ (by assumption)
  | exact Chg.at_ (by assumption)
  | exact New.get (by assumption) (by walk_at "look2")
  | exact Chg.getK (by assumption) (by walk_at "look2") (by exact rfl)
  | exact Chg.get (by assumption) (by walk_at "look2") (by walk_at "ne2")
  | exact sameGet (by assumption) (by walk_at "look2")
  | exact sbutGet (by assumption) (by walk_at "look2") (by walk_at "ne2")
  | exact keepGet (by assumption) (by walk_at "look2") trivial)
local macro_rules | `(tactic| walk_at "look2") => `(tactic| first
  | assumption
  | exact New.at_ (by assumption)
  | exact Chg.at_ (by assumption)
  | exact New.get (by assumption) (by walk_at "look3")
  | exact Chg.getK (by assumption) (by walk_at "look3") (by exact rfl)
  | exact Chg.get (by assumption) (by walk_at "look3") (by walk_at "ne3")
  | exact sameGet (by assumption) (by walk_at "look3")
  | exact sbutGet (by assumption) (by walk_at "look3") (by walk_at "ne3")
  | exact keepGet (by assumption) (by walk_at "look3") trivial)
local macro_rules | `(tactic| walk_at "look3") => `(tactic| first
  | assumption
  | exact New.at_ (by assumption)
  | exact Chg.at_ (by assumption)
  | exact New.get (by assumption) (by walk_at "look4")
  | exact Chg.getK (by assumption) (by walk_at "look4") (by exact rfl)
  | exact Chg.get (by assumption) (by walk_at "look4") (by walk_at "ne4")
  | exact sameGet (by assumption) (by walk_at "look4")
  | exact sbutGet (by assumption) (by walk_at "look4") (by walk_at "ne4")
  | exact keepGet (by assumption) (by walk_at "look4") trivial)
local macro_rules | `(tactic| walk_at "look4") => `(tactic| first
  | assumption
  | exact New.at_ (by assumption)
  | exact Chg.at_ (by assumption)
  | exact New.get (by assumption) (by walk_at "look5")
  | exact Chg.getK (by assumption) (by walk_at "look5") (by exact rfl)
  | exact Chg.get (by assumption) (by walk_at "look5") (by walk_at "ne5")
  | exact sameGet (by assumption) (by walk_at "look5")
  | exact sbutGet (by assumption) (by walk_at "look5") (by walk_at "ne5")
  | exact keepGet (by assumption) (by walk_at "look5") trivial)
local macro_rules | `(tactic| walk_at "look5") => `(tactic| first
  | assumption
  | exact New.at_ (by assumption)
  | exact Chg.at_ (by assumption)
  | exact New.get (by assumption) (by walk_at "look6")
  | exact Chg.getK (by assumption) (by walk_at "look6") (by exact rfl)
  | exact Chg.get (by assumption) (by walk_at "look6") (by walk_at "ne6")
  | exact sameGet (by assumption) (by walk_at "look6")
  | exact sbutGet (by assumption) (by walk_at "look6") (by walk_at "ne6")
  | exact keepGet (by assumption) (by walk_at "look6") trivial)
local macro_rules | `(tactic| walk_at "look6") => `(tactic| first
  | assumption
  | exact New.at_ (by assumption)
  | exact Chg.at_ (by assumption)
  | exact New.get (by assumption) (by walk_at "look7")
  | exact Chg.getK (by assumption) (by walk_at "look7") (by exact rfl)
  | exact Chg.get (by assumption) (by walk_at "look7") (by walk_at "ne7")
  | exact sameGet (by assumption) (by walk_at "look7")
  | exact sbutGet (by assumption) (by walk_at "look7") (by walk_at "ne7")
  | exact keepGet (by assumption) (by walk_at "look7") trivial)
local macro_rules | `(tactic| walk_at "look7") => `(tactic| first
  | assumption
  | exact New.at_ (by assumption)
  | exact Chg.at_ (by assumption)
  | exact New.get (by assumption) (by walk_at "look8")
  | exact Chg.getK (by assumption) (by walk_at "look8") (by exact rfl)
  | exact Chg.get (by assumption) (by walk_at "look8") (by walk_at "ne8")
  | exact sameGet (by assumption) (by walk_at "look8")
  | exact sbutGet (by assumption) (by walk_at "look8") (by walk_at "ne8")
  | exact keepGet (by assumption) (by walk_at "look8") trivial)
local macro_rules | `(tactic| walk_at "look8") => `(tactic| first
  | assumption
  | exact New.at_ (by assumption)
  | exact Chg.at_ (by assumption)
  | exact New.get (by assumption) (by walk_at "look9")
  | exact Chg.getK (by assumption) (by walk_at "look9") (by exact rfl)
  | exact Chg.get (by assumption) (by walk_at "look9") (by walk_at "ne9")
  | exact sameGet (by assumption) (by walk_at "look9")
  | exact sbutGet (by assumption) (by walk_at "look9") (by walk_at "ne9")
  | exact keepGet (by assumption) (by walk_at "look9") trivial)
local macro_rules | `(tactic| walk_at "look9") => `(tactic| first
  | assumption
  | exact New.at_ (by assumption)
  | exact Chg.at_ (by assumption)
  | exact New.get (by assumption) (by walk_at "look10")
  | exact Chg.getK (by assumption) (by walk_at "look10") (by exact rfl)
  | exact Chg.get (by assumption) (by walk_at "look10") (by walk_at "ne10")
  | exact sameGet (by assumption) (by walk_at "look10")
  | exact sbutGet (by assumption) (by walk_at "look10") (by walk_at "ne10")
  | exact keepGet (by assumption) (by walk_at "look10") trivial)
local macro_rules | `(tactic| walk_at "look10") => `(tactic| first
  | assumption
  | exact New.at_ (by assumption)
  | exact Chg.at_ (by assumption)
  | exact New.get (by assumption) (by walk_at "look11")
  | exact Chg.getK (by assumption) (by walk_at "look11") (by exact rfl)
  | exact Chg.get (by assumption) (by walk_at "look11") (by walk_at "ne11")
  | exact sameGet (by assumption) (by walk_at "look11")
  | exact sbutGet (by assumption) (by walk_at "look11") (by walk_at "ne11")
  | exact keepGet (by assumption) (by walk_at "look11") trivial)
local macro_rules | `(tactic| walk_at "look11") => `(tactic| first
  | assumption
  | exact New.at_ (by assumption)
  | exact Chg.at_ (by assumption)
  | exact New.get (by assumption) (by walk_at "look12")
  | exact Chg.getK (by assumption) (by walk_at "look12") (by exact rfl)
  | exact Chg.get (by assumption) (by walk_at "look12") (by walk_at "ne12")
  | exact sameGet (by assumption) (by walk_at "look12")
  | exact sbutGet (by assumption) (by walk_at "look12") (by walk_at "ne12")
  | exact keepGet (by assumption) (by walk_at "look12") trivial)
local macro_rules | `(tactic| walk_at "look12") => `(tactic| first
  | assumption
  | exact New.at_ (by assumption)
  | exact Chg.at_ (by assumption)
  | exact New.get (by assumption) (by walk_at "look13")
  | exact Chg.getK (by assumption) (by walk_at "look13") (by exact rfl)
  | exact Chg.get (by assumption) (by walk_at "look13") (by walk_at "ne13")
  | exact sameGet (by assumption) (by walk_at "look13")
  | exact sbutGet (by assumption) (by walk_at "look13") (by walk_at "ne13")
  | exact keepGet (by assumption) (by walk_at "look13") trivial)
local macro_rules | `(tactic| walk_at "look13") => `(tactic| first
  | assumption
  | exact New.at_ (by assumption)
  | exact Chg.at_ (by assumption)
  | exact New.get (by assumption) (by walk_at "look14")
  | exact Chg.getK (by assumption) (by walk_at "look14") (by exact rfl)
  | exact Chg.get (by assumption) (by walk_at "look14") (by walk_at "ne14")
  | exact sameGet (by assumption) (by walk_at "look14")
  | exact sbutGet (by assumption) (by walk_at "look14") (by walk_at "ne14")
  | exact keepGet (by assumption) (by walk_at "look14") trivial)
local macro_rules | `(tactic| walk_at "look14") => `(tactic| first
  | assumption
  | exact New.at_ (by assumption)
  | exact Chg.at_ (by assumption)
  | exact New.get (by assumption) (by walk_at "look15")
  | exact Chg.getK (by assumption) (by walk_at "look15") (by exact rfl)
  | exact Chg.get (by assumption) (by walk_at "look15") (by walk_at "ne15")
  | exact sameGet (by assumption) (by walk_at "look15")
  | exact sbutGet (by assumption) (by walk_at "look15") (by walk_at "ne15")
  | exact keepGet (by assumption) (by walk_at "look15") trivial)
local macro_rules | `(tactic| walk_at "look15") => `(tactic| first
  | assumption
  | exact New.at_ (by assumption)
  | exact Chg.at_ (by assumption)
  | exact New.get (by assumption) (by walk_at "look16")
  | exact Chg.getK (by assumption) (by walk_at "look16") (by exact rfl)
  | exact Chg.get (by assumption) (by walk_at "look16") (by walk_at "ne16")
  | exact sameGet (by assumption) (by walk_at "look16")
  | exact sbutGet (by assumption) (by walk_at "look16") (by walk_at "ne16")
  | exact keepGet (by assumption) (by walk_at "look16") trivial)
local macro_rules | `(tactic| walk_at "look16") => `(tactic| first
  | assumption
  | exact New.at_ (by assumption)
  | exact Chg.at_ (by assumption)
  | exact New.get (by assumption) (by walk_at "look17")
  | exact Chg.getK (by assumption) (by walk_at "look17") (by exact rfl)
  | exact Chg.get (by assumption) (by walk_at "look17") (by walk_at "ne17")
  | exact sameGet (by assumption) (by walk_at "look17")
  | exact sbutGet (by assumption) (by walk_at "look17") (by walk_at "ne17")
  | exact keepGet (by assumption) (by walk_at "look17") trivial)
local macro_rules | `(tactic| walk_at "look17") => `(tactic| first
  | assumption
  | exact New.at_ (by assumption)
  | exact Chg.at_ (by assumption)
  | exact New.get (by assumption) (by walk_at "look18")
  | exact Chg.getK (by assumption) (by walk_at "look18") (by exact rfl)
  | exact Chg.get (by assumption) (by walk_at "look18") (by walk_at "ne18")
  | exact sameGet (by assumption) (by walk_at "look18")
  | exact sbutGet (by assumption) (by walk_at "look18") (by walk_at "ne18")
  | exact keepGet (by assumption) (by walk_at "look18") trivial)
local macro_rules | `(tactic| walk_at "look18") => `(tactic| first
  | assumption
  | exact New.at_ (by assumption)
  | exact Chg.at_ (by assumption)
  | exact New.get (by assumption) (by walk_at "look19")
  | exact Chg.getK (by assumption) (by walk_at "look19") (by exact rfl)
  | exact Chg.get (by assumption) (by walk_at "look19") (by walk_at "ne19")
  | exact sameGet (by assumption) (by walk_at "look19")
  | exact sbutGet (by assumption) (by walk_at "look19") (by walk_at "ne19")
  | exact keepGet (by assumption) (by walk_at "look19") trivial)
local macro_rules | `(tactic| walk_at "look19") => `(tactic| first
  | assumption
  | exact New.at_ (by assumption)
  | exact Chg.at_ (by assumption)
  | exact New.get (by assumption) (by walk_at "look20")
  | exact Chg.getK (by assumption) (by walk_at "look20") (by exact rfl)
  | exact Chg.get (by assumption) (by walk_at "look20") (by walk_at "ne20")
  | exact sameGet (by assumption) (by walk_at "look20")
  | exact sbutGet (by assumption) (by walk_at "look20") (by walk_at "ne20")
  | exact keepGet (by assumption) (by walk_at "look20") trivial)
local macro_rules | `(tactic| walk_at "look20") => `(tactic| first
  | assumption
  | exact New.at_ (by assumption)
  | exact Chg.at_ (by assumption)
  | exact New.get (by assumption) (by walk_at "look21")
  | exact Chg.getK (by assumption) (by walk_at "look21") (by exact rfl)
  | exact Chg.get (by assumption) (by walk_at "look21") (by walk_at "ne21")
  | exact sameGet (by assumption) (by walk_at "look21")
  | exact sbutGet (by assumption) (by walk_at "look21") (by walk_at "ne21")
  | exact keepGet (by assumption) (by walk_at "look21") trivial)
local macro_rules | `(tactic| walk_at "look21") => `(tactic| first
  | assumption
  | exact New.at_ (by assumption)
  | exact Chg.at_ (by assumption)
  | exact New.get (by assumption) (by walk_at "look22")
  | exact Chg.getK (by assumption) (by walk_at "look22") (by exact rfl)
  | exact Chg.get (by assumption) (by walk_at "look22") (by walk_at "ne22")
  | exact sameGet (by assumption) (by walk_at "look22")
  | exact sbutGet (by assumption) (by walk_at "look22") (by walk_at "ne22")
  | exact keepGet (by assumption) (by walk_at "look22") trivial)
local macro_rules | `(tactic| walk_at "look22") => `(tactic| first
  | assumption
  | exact New.at_ (by assumption)
  | exact Chg.at_ (by assumption)
  | exact New.get (by assumption) (by walk_at "look23")
  | exact Chg.getK (by assumption) (by walk_at "look23") (by exact rfl)
  | exact Chg.get (by assumption) (by walk_at "look23") (by walk_at "ne23")
  | exact sameGet (by assumption) (by walk_at "look23")
  | exact sbutGet (by assumption) (by walk_at "look23") (by walk_at "ne23")
  | exact keepGet (by assumption) (by walk_at "look23") trivial)
local macro_rules | `(tactic| walk_at "look23") => `(tactic| first
  | assumption
  | exact New.at_ (by assumption)
  | exact Chg.at_ (by assumption)
  | exact New.get (by assumption) (by walk_at "look24")
  | exact Chg.getK (by assumption) (by walk_at "look24") (by exact rfl)
  | exact Chg.get (by assumption) (by walk_at "look24") (by walk_at "ne24")
  | exact sameGet (by assumption) (by walk_at "look24")
  | exact sbutGet (by assumption) (by walk_at "look24") (by walk_at "ne24")
  | exact keepGet (by assumption) (by walk_at "look24") trivial)
local macro_rules | `(tactic| walk_at "look24") => `(tactic| assumption)
local macro_rules | `(tactic| walk_at "kp") => `(tactic| first
  | exact fun _ _ h _ => h
  | assumption
  | exact Keep.of (by assumption)
  | exact keepStep (New.keep (by assumption)) (by walk_at "kp1")
  | exact keepStep (Chg.keepL (by assumption)) (by walk_at "kp1")
  | exact keepStep (Chg.keepD (by assumption)) (by walk_at "kp1")
  | exact keepStep (Chg.keepE (by assumption)) (by walk_at "kp1")
  | exact keepStep (Keep.of (by assumption)) (by walk_at "kp1")
  | exact keepStep (by assumption) (by walk_at "kp1"))
local macro_rules | `(tactic| walk_at "kp1") => `(tactic| first
  | exact fun _ _ h _ => h
  | assumption
  | exact Keep.of (by assumption)
  | exact keepStep (New.keep (by assumption)) (by walk_at "kp2")
  | exact keepStep (Chg.keepL (by assumption)) (by walk_at "kp2")
  | exact keepStep (Chg.keepD (by assumption)) (by walk_at "kp2")
  | exact keepStep (Chg.keepE (by assumption)) (by walk_at "kp2")
  | exact keepStep (Keep.of (by assumption)) (by walk_at "kp2")
  | exact keepStep (by assumption) (by walk_at "kp2"))
local macro_rules | `(tactic| walk_at "kp2") => `(tactic| first
  | exact fun _ _ h _ => h
  | assumption
  | exact Keep.of (by assumption)
  | exact keepStep (New.keep (by assumption)) (by walk_at "kp3")
  | exact keepStep (Chg.keepL (by assumption)) (by walk_at "kp3")
  | exact keepStep (Chg.keepD (by assumption)) (by walk_at "kp3")
  | exact keepStep (Chg.keepE (by assumption)) (by walk_at "kp3")
  | exact keepStep (Keep.of (by assumption)) (by walk_at "kp3")
  | exact keepStep (by assumption) (by walk_at "kp3"))
local macro_rules | `(tactic| walk_at "kp3") => `(tactic| first
  | exact fun _ _ h _ => h
  | assumption
  | exact Keep.of (by assumption)
  | exact keepStep (New.keep (by assumption)) (by walk_at "kp4")
  | exact keepStep (Chg.keepL (by assumption)) (by walk_at "kp4")
  | exact keepStep (Chg.keepD (by assumption)) (by walk_at "kp4")
  | exact keepStep (Chg.keepE (by assumption)) (by walk_at "kp4")
  | exact keepStep (Keep.of (by assumption)) (by walk_at "kp4")
  | exact keepStep (by assumption) (by walk_at "kp4"))
local macro_rules | `(tactic| walk_at "kp4") => `(tactic| first
  | exact fun _ _ h _ => h
  | assumption
  | exact Keep.of (by assumption)
  | exact keepStep (New.keep (by assumption)) (by walk_at "kp5")
  | exact keepStep (Chg.keepL (by assumption)) (by walk_at "kp5")
  | exact keepStep (Chg.keepD (by assumption)) (by walk_at "kp5")
  | exact keepStep (Chg.keepE (by assumption)) (by walk_at "kp5")
  | exact keepStep (Keep.of (by assumption)) (by walk_at "kp5")
  | exact keepStep (by assumption) (by walk_at "kp5"))
local macro_rules | `(tactic| walk_at "kp5") => `(tactic| first
  | exact fun _ _ h _ => h
  | assumption
  | exact Keep.of (by assumption)
  | exact keepStep (New.keep (by assumption)) (by walk_at "kp6")
  | exact keepStep (Chg.keepL (by assumption)) (by walk_at "kp6")
  | exact keepStep (Chg.keepD (by assumption)) (by walk_at "kp6")
  | exact keepStep (Chg.keepE (by assumption)) (by walk_at "kp6")
  | exact keepStep (Keep.of (by assumption)) (by walk_at "kp6")
  | exact keepStep (by assumption) (by walk_at "kp6"))
local macro_rules | `(tactic| walk_at "kp6") => `(tactic| first
  | exact fun _ _ h _ => h
  | assumption
  | exact Keep.of (by assumption)
  | exact keepStep (New.keep (by assumption)) (by walk_at "kp7")
  | exact keepStep (Chg.keepL (by assumption)) (by walk_at "kp7")
  | exact keepStep (Chg.keepD (by assumption)) (by walk_at "kp7")
  | exact keepStep (Chg.keepE (by assumption)) (by walk_at "kp7")
  | exact keepStep (Keep.of (by assumption)) (by walk_at "kp7")
  | exact keepStep (by assumption) (by walk_at "kp7"))
local macro_rules | `(tactic| walk_at "kp7") => `(tactic| first
  | exact fun _ _ h _ => h
  | assumption
  | exact Keep.of (by assumption)
  | exact keepStep (New.keep (by assumption)) (by walk_at "kp8")
  | exact keepStep (Chg.keepL (by assumption)) (by walk_at "kp8")
  | exact keepStep (Chg.keepD (by assumption)) (by walk_at "kp8")
  | exact keepStep (Chg.keepE (by assumption)) (by walk_at "kp8")
  | exact keepStep (Keep.of (by assumption)) (by walk_at "kp8")
  | exact keepStep (by assumption) (by walk_at "kp8"))
local macro_rules | `(tactic| walk_at "kp8") => `(tactic| first
  | exact fun _ _ h _ => h
  | assumption
  | exact Keep.of (by assumption)
  | exact keepStep (New.keep (by assumption)) (by walk_at "kp9")
  | exact keepStep (Chg.keepL (by assumption)) (by walk_at "kp9")
  | exact keepStep (Chg.keepD (by assumption)) (by walk_at "kp9")
  | exact keepStep (Chg.keepE (by assumption)) (by walk_at "kp9")
  | exact keepStep (Keep.of (by assumption)) (by walk_at "kp9")
  | exact keepStep (by assumption) (by walk_at "kp9"))
local macro_rules | `(tactic| walk_at "kp9") => `(tactic| first
  | exact fun _ _ h _ => h
  | assumption
  | exact Keep.of (by assumption)
  | exact keepStep (New.keep (by assumption)) (by walk_at "kp10")
  | exact keepStep (Chg.keepL (by assumption)) (by walk_at "kp10")
  | exact keepStep (Chg.keepD (by assumption)) (by walk_at "kp10")
  | exact keepStep (Chg.keepE (by assumption)) (by walk_at "kp10")
  | exact keepStep (Keep.of (by assumption)) (by walk_at "kp10")
  | exact keepStep (by assumption) (by walk_at "kp10"))
local macro_rules | `(tactic| walk_at "kp10") => `(tactic| first
  | exact fun _ _ h _ => h
  | assumption
  | exact Keep.of (by assumption)
  | exact keepStep (New.keep (by assumption)) (by walk_at "kp11")
  | exact keepStep (Chg.keepL (by assumption)) (by walk_at "kp11")
  | exact keepStep (Chg.keepD (by assumption)) (by walk_at "kp11")
  | exact keepStep (Chg.keepE (by assumption)) (by walk_at "kp11")
  | exact keepStep (Keep.of (by assumption)) (by walk_at "kp11")
  | exact keepStep (by assumption) (by walk_at "kp11"))
local macro_rules | `(tactic| walk_at "kp11") => `(tactic| first
  | exact fun _ _ h _ => h
  | assumption
  | exact Keep.of (by assumption)
  | exact keepStep (New.keep (by assumption)) (by walk_at "kp12")
  | exact keepStep (Chg.keepL (by assumption)) (by walk_at "kp12")
  | exact keepStep (Chg.keepD (by assumption)) (by walk_at "kp12")
  | exact keepStep (Chg.keepE (by assumption)) (by walk_at "kp12")
  | exact keepStep (Keep.of (by assumption)) (by walk_at "kp12")
  | exact keepStep (by assumption) (by walk_at "kp12"))
local macro_rules | `(tactic| walk_at "kp12") => `(tactic| first
  | exact fun _ _ h _ => h
  | assumption
  | exact Keep.of (by assumption)
  | exact keepStep (New.keep (by assumption)) (by walk_at "kp13")
  | exact keepStep (Chg.keepL (by assumption)) (by walk_at "kp13")
  | exact keepStep (Chg.keepD (by assumption)) (by walk_at "kp13")
  | exact keepStep (Chg.keepE (by assumption)) (by walk_at "kp13")
  | exact keepStep (Keep.of (by assumption)) (by walk_at "kp13")
  | exact keepStep (by assumption) (by walk_at "kp13"))
local macro_rules | `(tactic| walk_at "kp13") => `(tactic| first
  | exact fun _ _ h _ => h
  | assumption
  | exact Keep.of (by assumption)
  | exact keepStep (New.keep (by assumption)) (by walk_at "kp14")
  | exact keepStep (Chg.keepL (by assumption)) (by walk_at "kp14")
  | exact keepStep (Chg.keepD (by assumption)) (by walk_at "kp14")
  | exact keepStep (Chg.keepE (by assumption)) (by walk_at "kp14")
  | exact keepStep (Keep.of (by assumption)) (by walk_at "kp14")
  | exact keepStep (by assumption) (by walk_at "kp14"))
local macro_rules | `(tactic| walk_at "kp14") => `(tactic| first
  | exact fun _ _ h _ => h
  | assumption
  | exact Keep.of (by assumption)
  | exact keepStep (New.keep (by assumption)) (by walk_at "kp15")
  | exact keepStep (Chg.keepL (by assumption)) (by walk_at "kp15")
  | exact keepStep (Chg.keepD (by assumption)) (by walk_at "kp15")
  | exact keepStep (Chg.keepE (by assumption)) (by walk_at "kp15")
  | exact keepStep (Keep.of (by assumption)) (by walk_at "kp15")
  | exact keepStep (by assumption) (by walk_at "kp15"))
local macro_rules | `(tactic| walk_at "kp15") => `(tactic| first
  | exact fun _ _ h _ => h
  | assumption
  | exact Keep.of (by assumption)
  | exact keepStep (New.keep (by assumption)) (by walk_at "kp16")
  | exact keepStep (Chg.keepL (by assumption)) (by walk_at "kp16")
  | exact keepStep (Chg.keepD (by assumption)) (by walk_at "kp16")
  | exact keepStep (Chg.keepE (by assumption)) (by walk_at "kp16")
  | exact keepStep (Keep.of (by assumption)) (by walk_at "kp16")
  | exact keepStep (by assumption) (by walk_at "kp16"))
local macro_rules | `(tactic| walk_at "kp16") => `(tactic| first
  | exact fun _ _ h _ => h
  | assumption
  | exact Keep.of (by assumption)
  | exact keepStep (New.keep (by assumption)) (by walk_at "kp17")
  | exact keepStep (Chg.keepL (by assumption)) (by walk_at "kp17")
  | exact keepStep (Chg.keepD (by assumption)) (by walk_at "kp17")
  | exact keepStep (Chg.keepE (by assumption)) (by walk_at "kp17")
  | exact keepStep (Keep.of (by assumption)) (by walk_at "kp17")
  | exact keepStep (by assumption) (by walk_at "kp17"))
local macro_rules | `(tactic| walk_at "kp17") => `(tactic| first
  | exact fun _ _ h _ => h
  | assumption
  | exact Keep.of (by assumption)
  | exact keepStep (New.keep (by assumption)) (by walk_at "kp18")
  | exact keepStep (Chg.keepL (by assumption)) (by walk_at "kp18")
  | exact keepStep (Chg.keepD (by assumption)) (by walk_at "kp18")
  | exact keepStep (Chg.keepE (by assumption)) (by walk_at "kp18")
  | exact keepStep (Keep.of (by assumption)) (by walk_at "kp18")
  | exact keepStep (by assumption) (by walk_at "kp18"))
local macro_rules | `(tactic| walk_at "kp18") => `(tactic| first
  | exact fun _ _ h _ => h
  | assumption
  | exact Keep.of (by assumption)
  | exact keepStep (New.keep (by assumption)) (by walk_at "kp19")
  | exact keepStep (Chg.keepL (by assumption)) (by walk_at "kp19")
  | exact keepStep (Chg.keepD (by assumption)) (by walk_at "kp19")
  | exact keepStep (Chg.keepE (by assumption)) (by walk_at "kp19")
  | exact keepStep (Keep.of (by assumption)) (by walk_at "kp19")
  | exact keepStep (by assumption) (by walk_at "kp19"))
local macro_rules | `(tactic| walk_at "kp19") => `(tactic| first
  | exact fun _ _ h _ => h
  | assumption
  | exact Keep.of (by assumption)
  | exact keepStep (New.keep (by assumption)) (by walk_at "kp20")
  | exact keepStep (Chg.keepL (by assumption)) (by walk_at "kp20")
  | exact keepStep (Chg.keepD (by assumption)) (by walk_at "kp20")
  | exact keepStep (Chg.keepE (by assumption)) (by walk_at "kp20")
  | exact keepStep (Keep.of (by assumption)) (by walk_at "kp20")
  | exact keepStep (by assumption) (by walk_at "kp20"))
local macro_rules | `(tactic| walk_at "kp20") => `(tactic| first
  | exact fun _ _ h _ => h
  | assumption
  | exact Keep.of (by assumption)
  | exact keepStep (New.keep (by assumption)) (by walk_at "kp21")
  | exact keepStep (Chg.keepL (by assumption)) (by walk_at "kp21")
  | exact keepStep (Chg.keepD (by assumption)) (by walk_at "kp21")
  | exact keepStep (Chg.keepE (by assumption)) (by walk_at "kp21")
  | exact keepStep (Keep.of (by assumption)) (by walk_at "kp21")
  | exact keepStep (by assumption) (by walk_at "kp21"))
local macro_rules | `(tactic| walk_at "kp21") => `(tactic| first
  | exact fun _ _ h _ => h
  | assumption
  | exact Keep.of (by assumption)
  | exact keepStep (New.keep (by assumption)) (by walk_at "kp22")
  | exact keepStep (Chg.keepL (by assumption)) (by walk_at "kp22")
  | exact keepStep (Chg.keepD (by assumption)) (by walk_at "kp22")
  | exact keepStep (Chg.keepE (by assumption)) (by walk_at "kp22")
  | exact keepStep (Keep.of (by assumption)) (by walk_at "kp22")
  | exact keepStep (by assumption) (by walk_at "kp22"))
local macro_rules | `(tactic| walk_at "kp22") => `(tactic| first
  | exact fun _ _ h _ => h
  | assumption
  | exact Keep.of (by assumption)
  | exact keepStep (New.keep (by assumption)) (by walk_at "kp23")
  | exact keepStep (Chg.keepL (by assumption)) (by walk_at "kp23")
  | exact keepStep (Chg.keepD (by assumption)) (by walk_at "kp23")
  | exact keepStep (Chg.keepE (by assumption)) (by walk_at "kp23")
  | exact keepStep (Keep.of (by assumption)) (by walk_at "kp23")
  | exact keepStep (by assumption) (by walk_at "kp23"))
local macro_rules | `(tactic| walk_at "kp23") => `(tactic| first
  | exact fun _ _ h _ => h
  | assumption
  | exact Keep.of (by assumption)
  | exact keepStep (New.keep (by assumption)) (by walk_at "kp24")
  | exact keepStep (Chg.keepL (by assumption)) (by walk_at "kp24")
  | exact keepStep (Chg.keepD (by assumption)) (by walk_at "kp24")
  | exact keepStep (Chg.keepE (by assumption)) (by walk_at "kp24")
  | exact keepStep (Keep.of (by assumption)) (by walk_at "kp24")
  | exact keepStep (by assumption) (by walk_at "kp24"))
local macro_rules | `(tactic| walk_at "kp24") => `(tactic| assumption)
local macro_rules | `(tactic| walk_at "sm") => `(tactic| first
  | exact Same.refl _
  | assumption
  | exact sameStep (New.same (by assumption)) (by walk_at "sm1")
  | exact Chg.sameOwn (by assumption) (by walk_at "sm1") (by walk_at "fr1")
  | exact sameStep (by assumption) (by walk_at "sm1"))
local macro_rules | `(tactic| walk_at "sm1") => `(tactic| first
  | exact Same.refl _
  | assumption
  | exact sameStep (New.same (by assumption)) (by walk_at "sm2")
  | exact Chg.sameOwn (by assumption) (by walk_at "sm2") (by walk_at "fr2")
  | exact sameStep (by assumption) (by walk_at "sm2"))
local macro_rules | `(tactic| walk_at "sm2") => `(tactic| first
  | exact Same.refl _
  | assumption
  | exact sameStep (New.same (by assumption)) (by walk_at "sm3")
  | exact Chg.sameOwn (by assumption) (by walk_at "sm3") (by walk_at "fr3")
  | exact sameStep (by assumption) (by walk_at "sm3"))
local macro_rules | `(tactic| walk_at "sm3") => `(tactic| first
  | exact Same.refl _
  | assumption
  | exact sameStep (New.same (by assumption)) (by walk_at "sm4")
  | exact Chg.sameOwn (by assumption) (by walk_at "sm4") (by walk_at "fr4")
  | exact sameStep (by assumption) (by walk_at "sm4"))
local macro_rules | `(tactic| walk_at "sm4") => `(tactic| first
  | exact Same.refl _
  | assumption
  | exact sameStep (New.same (by assumption)) (by walk_at "sm5")
  | exact Chg.sameOwn (by assumption) (by walk_at "sm5") (by walk_at "fr5")
  | exact sameStep (by assumption) (by walk_at "sm5"))
local macro_rules | `(tactic| walk_at "sm5") => `(tactic| first
  | exact Same.refl _
  | assumption
  | exact sameStep (New.same (by assumption)) (by walk_at "sm6")
  | exact Chg.sameOwn (by assumption) (by walk_at "sm6") (by walk_at "fr6")
  | exact sameStep (by assumption) (by walk_at "sm6"))
local macro_rules | `(tactic| walk_at "sm6") => `(tactic| first
  | exact Same.refl _
  | assumption
  | exact sameStep (New.same (by assumption)) (by walk_at "sm7")
  | exact Chg.sameOwn (by assumption) (by walk_at "sm7") (by walk_at "fr7")
  | exact sameStep (by assumption) (by walk_at "sm7"))
local macro_rules | `(tactic| walk_at "sm7") => `(tactic| first
  | exact Same.refl _
  | assumption
  | exact sameStep (New.same (by assumption)) (by walk_at "sm8")
  | exact Chg.sameOwn (by assumption) (by walk_at "sm8") (by walk_at "fr8")
  | exact sameStep (by assumption) (by walk_at "sm8"))
local macro_rules | `(tactic| walk_at "sm8") => `(tactic| first
  | exact Same.refl _
  | assumption
  | exact sameStep (New.same (by assumption)) (by walk_at "sm9")
  | exact Chg.sameOwn (by assumption) (by walk_at "sm9") (by walk_at "fr9")
  | exact sameStep (by assumption) (by walk_at "sm9"))
local macro_rules | `(tactic| walk_at "sm9") => `(tactic| first
  | exact Same.refl _
  | assumption
  | exact sameStep (New.same (by assumption)) (by walk_at "sm10")
  | exact Chg.sameOwn (by assumption) (by walk_at "sm10") (by walk_at "fr10")
  | exact sameStep (by assumption) (by walk_at "sm10"))
local macro_rules | `(tactic| walk_at "sm10") => `(tactic| first
  | exact Same.refl _
  | assumption
  | exact sameStep (New.same (by assumption)) (by walk_at "sm11")
  | exact Chg.sameOwn (by assumption) (by walk_at "sm11") (by walk_at "fr11")
  | exact sameStep (by assumption) (by walk_at "sm11"))
local macro_rules | `(tactic| walk_at "sm11") => `(tactic| first
  | exact Same.refl _
  | assumption
  | exact sameStep (New.same (by assumption)) (by walk_at "sm12")
  | exact Chg.sameOwn (by assumption) (by walk_at "sm12") (by walk_at "fr12")
  | exact sameStep (by assumption) (by walk_at "sm12"))
local macro_rules | `(tactic| walk_at "sm12") => `(tactic| first
  | exact Same.refl _
  | assumption
  | exact sameStep (New.same (by assumption)) (by walk_at "sm13")
  | exact Chg.sameOwn (by assumption) (by walk_at "sm13") (by walk_at "fr13")
  | exact sameStep (by assumption) (by walk_at "sm13"))
local macro_rules | `(tactic| walk_at "sm13") => `(tactic| first
  | exact Same.refl _
  | assumption
  | exact sameStep (New.same (by assumption)) (by walk_at "sm14")
  | exact Chg.sameOwn (by assumption) (by walk_at "sm14") (by walk_at "fr14")
  | exact sameStep (by assumption) (by walk_at "sm14"))
local macro_rules | `(tactic| walk_at "sm14") => `(tactic| first
  | exact Same.refl _
  | assumption
  | exact sameStep (New.same (by assumption)) (by walk_at "sm15")
  | exact Chg.sameOwn (by assumption) (by walk_at "sm15") (by walk_at "fr15")
  | exact sameStep (by assumption) (by walk_at "sm15"))
local macro_rules | `(tactic| walk_at "sm15") => `(tactic| first
  | exact Same.refl _
  | assumption
  | exact sameStep (New.same (by assumption)) (by walk_at "sm16")
  | exact Chg.sameOwn (by assumption) (by walk_at "sm16") (by walk_at "fr16")
  | exact sameStep (by assumption) (by walk_at "sm16"))
local macro_rules | `(tactic| walk_at "sm16") => `(tactic| first
  | exact Same.refl _
  | assumption
  | exact sameStep (New.same (by assumption)) (by walk_at "sm17")
  | exact Chg.sameOwn (by assumption) (by walk_at "sm17") (by walk_at "fr17")
  | exact sameStep (by assumption) (by walk_at "sm17"))
local macro_rules | `(tactic| walk_at "sm17") => `(tactic| first
  | exact Same.refl _
  | assumption
  | exact sameStep (New.same (by assumption)) (by walk_at "sm18")
  | exact Chg.sameOwn (by assumption) (by walk_at "sm18") (by walk_at "fr18")
  | exact sameStep (by assumption) (by walk_at "sm18"))
local macro_rules | `(tactic| walk_at "sm18") => `(tactic| first
  | exact Same.refl _
  | assumption
  | exact sameStep (New.same (by assumption)) (by walk_at "sm19")
  | exact Chg.sameOwn (by assumption) (by walk_at "sm19") (by walk_at "fr19")
  | exact sameStep (by assumption) (by walk_at "sm19"))
local macro_rules | `(tactic| walk_at "sm19") => `(tactic| first
  | exact Same.refl _
  | assumption
  | exact sameStep (New.same (by assumption)) (by walk_at "sm20")
  | exact Chg.sameOwn (by assumption) (by walk_at "sm20") (by walk_at "fr20")
  | exact sameStep (by assumption) (by walk_at "sm20"))
local macro_rules | `(tactic| walk_at "sm20") => `(tactic| first
  | exact Same.refl _
  | assumption
  | exact sameStep (New.same (by assumption)) (by walk_at "sm21")
  | exact Chg.sameOwn (by assumption) (by walk_at "sm21") (by walk_at "fr21")
  | exact sameStep (by assumption) (by walk_at "sm21"))
local macro_rules | `(tactic| walk_at "sm21") => `(tactic| first
  | exact Same.refl _
  | assumption
  | exact sameStep (New.same (by assumption)) (by walk_at "sm22")
  | exact Chg.sameOwn (by assumption) (by walk_at "sm22") (by walk_at "fr22")
  | exact sameStep (by assumption) (by walk_at "sm22"))
local macro_rules | `(tactic| walk_at "sm22") => `(tactic| first
  | exact Same.refl _
  | assumption
  | exact sameStep (New.same (by assumption)) (by walk_at "sm23")
  | exact Chg.sameOwn (by assumption) (by walk_at "sm23") (by walk_at "fr23")
  | exact sameStep (by assumption) (by walk_at "sm23"))
local macro_rules | `(tactic| walk_at "sm23") => `(tactic| first
  | exact Same.refl _
  | assumption
  | exact sameStep (New.same (by assumption)) (by walk_at "sm24")
  | exact Chg.sameOwn (by assumption) (by walk_at "sm24") (by walk_at "fr24")
  | exact sameStep (by assumption) (by walk_at "sm24"))
local macro_rules | `(tactic| walk_at "sm24") => `(tactic| assumption)
local macro_rules | `(tactic| walk_at "fr") => `(tactic| first
  | assumption
  | exact New.free (by assumption)
  | exact freeBack (New.free (by assumption)) (by walk_at "sm1"))
local macro_rules | `(tactic| walk_at "fr1") => `(tactic| first
  | assumption
  | exact New.free (by assumption)
  | exact freeBack (New.free (by assumption)) (by walk_at "sm2"))
local macro_rules | `(tactic| walk_at "fr2") => `(tactic| first
  | assumption
  | exact New.free (by assumption)
  | exact freeBack (New.free (by assumption)) (by walk_at "sm3"))
local macro_rules | `(tactic| walk_at "fr3") => `(tactic| first
  | assumption
  | exact New.free (by assumption)
  | exact freeBack (New.free (by assumption)) (by walk_at "sm4"))
local macro_rules | `(tactic| walk_at "fr4") => `(tactic| first
  | assumption
  | exact New.free (by assumption)
  | exact freeBack (New.free (by assumption)) (by walk_at "sm5"))
local macro_rules | `(tactic| walk_at "fr5") => `(tactic| first
  | assumption
  | exact New.free (by assumption)
  | exact freeBack (New.free (by assumption)) (by walk_at "sm6"))
local macro_rules | `(tactic| walk_at "fr6") => `(tactic| first
  | assumption
  | exact New.free (by assumption)
  | exact freeBack (New.free (by assumption)) (by walk_at "sm7"))
local macro_rules | `(tactic| walk_at "fr7") => `(tactic| first
  | assumption
  | exact New.free (by assumption)
  | exact freeBack (New.free (by assumption)) (by walk_at "sm8"))
local macro_rules | `(tactic| walk_at "fr8") => `(tactic| first
  | assumption
  | exact New.free (by assumption)
  | exact freeBack (New.free (by assumption)) (by walk_at "sm9"))
local macro_rules | `(tactic| walk_at "fr9") => `(tactic| first
  | assumption
  | exact New.free (by assumption)
  | exact freeBack (New.free (by assumption)) (by walk_at "sm10"))
local macro_rules | `(tactic| walk_at "fr10") => `(tactic| first
  | assumption
  | exact New.free (by assumption)
  | exact freeBack (New.free (by assumption)) (by walk_at "sm11"))
local macro_rules | `(tactic| walk_at "fr11") => `(tactic| first
  | assumption
  | exact New.free (by assumption)
  | exact freeBack (New.free (by assumption)) (by walk_at "sm12"))
local macro_rules | `(tactic| walk_at "fr12") => `(tactic| first
  | assumption
  | exact New.free (by assumption)
  | exact freeBack (New.free (by assumption)) (by walk_at "sm13"))
local macro_rules | `(tactic| walk_at "fr13") => `(tactic| first
  | assumption
  | exact New.free (by assumption)
  | exact freeBack (New.free (by assumption)) (by walk_at "sm14"))
local macro_rules | `(tactic| walk_at "fr14") => `(tactic| first
  | assumption
  | exact New.free (by assumption)
  | exact freeBack (New.free (by assumption)) (by walk_at "sm15"))
local macro_rules | `(tactic| walk_at "fr15") => `(tactic| first
  | assumption
  | exact New.free (by assumption)
  | exact freeBack (New.free (by assumption)) (by walk_at "sm16"))
local macro_rules | `(tactic| walk_at "fr16") => `(tactic| first
  | assumption
  | exact New.free (by assumption)
  | exact freeBack (New.free (by assumption)) (by walk_at "sm17"))
local macro_rules | `(tactic| walk_at "fr17") => `(tactic| first
  | assumption
  | exact New.free (by assumption)
  | exact freeBack (New.free (by assumption)) (by walk_at "sm18"))
local macro_rules | `(tactic| walk_at "fr18") => `(tactic| first
  | assumption
  | exact New.free (by assumption)
  | exact freeBack (New.free (by assumption)) (by walk_at "sm19"))
local macro_rules | `(tactic| walk_at "fr19") => `(tactic| first
  | assumption
  | exact New.free (by assumption)
  | exact freeBack (New.free (by assumption)) (by walk_at "sm20"))
local macro_rules | `(tactic| walk_at "fr20") => `(tactic| first
  | assumption
  | exact New.free (by assumption)
  | exact freeBack (New.free (by assumption)) (by walk_at "sm21"))
local macro_rules | `(tactic| walk_at "fr21") => `(tactic| first
  | assumption
  | exact New.free (by assumption)
  | exact freeBack (New.free (by assumption)) (by walk_at "sm22"))
local macro_rules | `(tactic| walk_at "fr22") => `(tactic| first
  | assumption
  | exact New.free (by assumption)
  | exact freeBack (New.free (by assumption)) (by walk_at "sm23"))
local macro_rules | `(tactic| walk_at "fr23") => `(tactic| first
  | assumption
  | exact New.free (by assumption)
  | exact freeBack (New.free (by assumption)) (by walk_at "sm24"))
local macro_rules | `(tactic| walk_at "fr24") => `(tactic| assumption)
local macro_rules | `(tactic| walk_at "ci") => `(tactic| first | decide | exact ⟨by decide, by decide⟩ | assumption | exact cmR (by decide) (by decide) | exact cmL (by decide) (by decide) | exact cmR (by omega) (by omega) | exact cmL (by omega) (by omega) | exact dvW (by omega) (by omega) | omega)
local macro_rules | `(tactic| walk_at "sz") => `(tactic| (have hzz := sizeLine_eq; (try simp only [List.length_append, List.length_cons, List.length_nil, List.length_map, List.length_replicate]); (first | done | omega)))
local macro_rules | `(tactic| walk_at "at") => `(tactic| first | assumption | exact rfl | exact atI_nat (by assumption))
local macro_rules | `(tactic| walk_at "ty") => `(tactic| first
  | exact .base .non
  | exact .base (.bl _)
  | exact .base (.int _)
  | exact .base (.str _)
  | exact .base (.tup (by walk_at "look"))
  | exact .base (.lst (by walk_at "look"))
  | exact .base (.dK (by walk_at "look")))
local macro_rules | `(tactic| walk_at "bt") => `(tactic| first
  | exact fun _ _ e _ => e
  | assumption
  | exact Chg.butStep (by assumption) (by walk_at "bt1")
  | exact butStep (New.same (by assumption)) (by walk_at "bt1"))
local macro_rules | `(tactic| walk_at "bt1") => `(tactic| first
  | exact fun _ _ e _ => e
  | assumption
  | exact Chg.butStep (by assumption) (by walk_at "bt2")
  | exact butStep (New.same (by assumption)) (by walk_at "bt2"))
local macro_rules | `(tactic| walk_at "bt2") => `(tactic| first
  | exact fun _ _ e _ => e
  | assumption
  | exact Chg.butStep (by assumption) (by walk_at "bt3")
  | exact butStep (New.same (by assumption)) (by walk_at "bt3"))
local macro_rules | `(tactic| walk_at "bt3") => `(tactic| first
  | exact fun _ _ e _ => e
  | assumption
  | exact Chg.butStep (by assumption) (by walk_at "bt4")
  | exact butStep (New.same (by assumption)) (by walk_at "bt4"))
local macro_rules | `(tactic| walk_at "bt4") => `(tactic| first
  | exact fun _ _ e _ => e
  | assumption
  | exact Chg.butStep (by assumption) (by walk_at "bt5")
  | exact butStep (New.same (by assumption)) (by walk_at "bt5"))
local macro_rules | `(tactic| walk_at "bt5") => `(tactic| first
  | exact fun _ _ e _ => e
  | assumption
  | exact Chg.butStep (by assumption) (by walk_at "bt6")
  | exact butStep (New.same (by assumption)) (by walk_at "bt6"))
local macro_rules | `(tactic| walk_at "bt6") => `(tactic| first
  | exact fun _ _ e _ => e
  | assumption
  | exact Chg.butStep (by assumption) (by walk_at "bt7")
  | exact butStep (New.same (by assumption)) (by walk_at "bt7"))
local macro_rules | `(tactic| walk_at "bt7") => `(tactic| first
  | exact fun _ _ e _ => e
  | assumption
  | exact Chg.butStep (by assumption) (by walk_at "bt8")
  | exact butStep (New.same (by assumption)) (by walk_at "bt8"))
local macro_rules | `(tactic| walk_at "bt8") => `(tactic| first
  | exact fun _ _ e _ => e
  | assumption
  | exact Chg.butStep (by assumption) (by walk_at "bt9")
  | exact butStep (New.same (by assumption)) (by walk_at "bt9"))
local macro_rules | `(tactic| walk_at "bt9") => `(tactic| first
  | exact fun _ _ e _ => e
  | assumption
  | exact Chg.butStep (by assumption) (by walk_at "bt10")
  | exact butStep (New.same (by assumption)) (by walk_at "bt10"))
local macro_rules | `(tactic| walk_at "bt10") => `(tactic| first
  | exact fun _ _ e _ => e
  | assumption
  | exact Chg.butStep (by assumption) (by walk_at "bt11")
  | exact butStep (New.same (by assumption)) (by walk_at "bt11"))
local macro_rules | `(tactic| walk_at "bt11") => `(tactic| first
  | exact fun _ _ e _ => e
  | assumption
  | exact Chg.butStep (by assumption) (by walk_at "bt12")
  | exact butStep (New.same (by assumption)) (by walk_at "bt12"))
local macro_rules | `(tactic| walk_at "bt12") => `(tactic| first
  | exact fun _ _ e _ => e
  | assumption
  | exact Chg.butStep (by assumption) (by walk_at "bt13")
  | exact butStep (New.same (by assumption)) (by walk_at "bt13"))
local macro_rules | `(tactic| walk_at "bt13") => `(tactic| first
  | exact fun _ _ e _ => e
  | assumption
  | exact Chg.butStep (by assumption) (by walk_at "bt14")
  | exact butStep (New.same (by assumption)) (by walk_at "bt14"))
local macro_rules | `(tactic| walk_at "bt14") => `(tactic| first
  | exact fun _ _ e _ => e
  | assumption
  | exact Chg.butStep (by assumption) (by walk_at "bt15")
  | exact butStep (New.same (by assumption)) (by walk_at "bt15"))
local macro_rules | `(tactic| walk_at "bt15") => `(tactic| first
  | exact fun _ _ e _ => e
  | assumption
  | exact Chg.butStep (by assumption) (by walk_at "bt16")
  | exact butStep (New.same (by assumption)) (by walk_at "bt16"))
local macro_rules | `(tactic| walk_at "bt16") => `(tactic| first
  | exact fun _ _ e _ => e
  | assumption
  | exact Chg.butStep (by assumption) (by walk_at "bt17")
  | exact butStep (New.same (by assumption)) (by walk_at "bt17"))
local macro_rules | `(tactic| walk_at "bt17") => `(tactic| first
  | exact fun _ _ e _ => e
  | assumption
  | exact Chg.butStep (by assumption) (by walk_at "bt18")
  | exact butStep (New.same (by assumption)) (by walk_at "bt18"))
local macro_rules | `(tactic| walk_at "bt18") => `(tactic| first
  | exact fun _ _ e _ => e
  | assumption
  | exact Chg.butStep (by assumption) (by walk_at "bt19")
  | exact butStep (New.same (by assumption)) (by walk_at "bt19"))
local macro_rules | `(tactic| walk_at "bt19") => `(tactic| first
  | exact fun _ _ e _ => e
  | assumption
  | exact Chg.butStep (by assumption) (by walk_at "bt20")
  | exact butStep (New.same (by assumption)) (by walk_at "bt20"))
local macro_rules | `(tactic| walk_at "bt20") => `(tactic| first
  | exact fun _ _ e _ => e
  | assumption
  | exact Chg.butStep (by assumption) (by walk_at "bt21")
  | exact butStep (New.same (by assumption)) (by walk_at "bt21"))
local macro_rules | `(tactic| walk_at "bt21") => `(tactic| first
  | exact fun _ _ e _ => e
  | assumption
  | exact Chg.butStep (by assumption) (by walk_at "bt22")
  | exact butStep (New.same (by assumption)) (by walk_at "bt22"))
local macro_rules | `(tactic| walk_at "bt22") => `(tactic| first
  | exact fun _ _ e _ => e
  | assumption
  | exact Chg.butStep (by assumption) (by walk_at "bt23")
  | exact butStep (New.same (by assumption)) (by walk_at "bt23"))
local macro_rules | `(tactic| walk_at "bt23") => `(tactic| first
  | exact fun _ _ e _ => e
  | assumption
  | exact Chg.butStep (by assumption) (by walk_at "bt24")
  | exact butStep (New.same (by assumption)) (by walk_at "bt24"))
local macro_rules | `(tactic| walk_at "bt24") => `(tactic| assumption)
local macro_rules | `(tactic| walk_at "isij") => `(tactic| first
  | assumption
  | exact IsiAt.hk (by assumption) 0 _ (by exact rfl)
  | exact IsiAt.hk (by assumption) 1 _ (by exact rfl)
  | exact IsiAt.hk (by assumption) 2 _ (by exact rfl)
  | exact IsiAt.hk (by assumption) 3 _ (by exact rfl)
  | exact IsiAt.hk (by assumption) 4 _ (by exact rfl)
  | exact IsiAt.hk (by assumption) 5 _ (by exact rfl)
  | exact IsiAt.hk (by assumption) 6 _ (by exact rfl)
  | exact IsiAt.hk (by assumption) 7 _ (by exact rfl)
  | exact IsiAt.hk (by assumption) 8 _ (by exact rfl)
  | exact IsiAt.hk (by assumption) 9 _ (by exact rfl)
  | exact IsiAt.hk (by assumption) 10 _ (by exact rfl)
  | exact IsiAt.hk (by assumption) 11 _ (by exact rfl)
  | exact IsiAt.hk (by assumption) 12 _ (by exact rfl)
  | exact IsiAt.hk (by assumption) 13 _ (by exact rfl)
  | exact IsiAt.hk (by assumption) 14 _ (by exact rfl)
  | exact IsiAt.hk (by assumption) 15 _ (by exact rfl)
  | exact IsiAt.hk (by assumption) 16 _ (by exact rfl)
  | exact IsiAt.hk (by assumption) 17 _ (by exact rfl)
  | exact IsiAt.hk (by assumption) 18 _ (by exact rfl))
local macro_rules | `(tactic| walk_at "sy1") => `(tactic| first
  | with_reducible refine w_seq ?_
  | with_reducible refine w_asg ?_
  | ((with_reducible apply w_var); (· exact rfl))
  | with_reducible refine w_C ?_
  | ((with_reducible refine w_name ?_); intro σ' e; (first | dsimp only [List.set] at e | dsimp only [L2.start, L2.wipe, List.map, List.length_cons, List.length_nil, Nat.reduceAdd, Nat.reduceSub, List.replicate, List.cons_append, List.nil_append, List.append, List.set] at e); subst e)
  | with_reducible refine w_nx ?_
  | with_reducible refine w_cons ?_
  | with_reducible refine w_nil ?_
  | with_reducible refine w_op ?_
  | with_reducible refine w_rI0 ?_
  | ((with_reducible apply w_rI); (· walk_at "ci"))
  | with_reducible refine w_call ?_
  | with_reducible refine w_ifS ?_
  | with_reducible refine w_tup ?_
  | with_reducible refine w_lst ?_
  | ((with_reducible apply w_newT); (· walk_at "sz"); intro p H' n)
  | ((with_reducible apply w_newL); (· walk_at "sz"); intro p H' n)
  | with_reducible refine w_test ?_
  | with_reducible refine w_tB ?_
  | with_reducible refine w_rEqI ?_
  | with_reducible refine w_rEqS ?_
  | with_reducible refine w_rNeI ?_
  | with_reducible refine w_rNeS ?_
  | with_reducible refine w_blB ?_
  | with_reducible refine iteDT rfl ?_
  | ((with_reducible apply iteDT); (· (first | omega | assumption)))
  | ((with_reducible apply iteDF); (· (first | omega | assumption | exact (fun h => V.noConfusion h) | (with_reducible exact (by decide +kernel)))))
  | ((with_reducible apply iteBT); (· (first | exact rfl | assumption | decide +kernel)))
  | ((with_reducible apply iteBF); (· (first | exact rfl | assumption | decide +kernel)))
  | ((with_reducible apply iteNF); (· (first | exact rfl | omega | assumption)))
  | ((with_reducible apply iteNT); (· (first | omega | assumption | exact (fun h => V.noConfusion h))))
  | with_reducible refine w_next ?_
  | ((with_reducible apply w_ixT); (· walk_at "look"); (· walk_at "at"))
  | ((with_reducible apply w_ixL); (· walk_at "look"); (· walk_at "at"))
  | with_reducible refine w_cb ?_
  | ((with_reducible apply w_lenT); (· walk_at "look"))
  | ((with_reducible apply w_lenL); (· walk_at "look"))
  | with_reducible refine w_bm ?_
  | with_reducible refine w_bm0 ?_
  | ((with_reducible apply w_tyL); (· walk_at "look"))
  | ((with_reducible apply w_append); (· walk_at "look"); (· walk_at "sz"); intro H' c)
  | ((with_reducible apply w_setL); (· walk_at "look"); (· walk_at "at"); intro H' c)
  | with_reducible refine w_ret ?_
  | with_reducible refine w_retN ?_
  | with_reducible refine w_rt ?_
  | with_reducible refine w_bk ?_
  | with_reducible refine w_ct ?_
  | with_reducible refine w_break ?_
  | with_reducible refine w_cont ?_
  | with_reducible refine w_drop ?_
  | with_reducible refine w_if ?_
  | with_reducible refine w_and ?_
  | with_reducible refine w_or ?_
  | with_reducible refine w_not ?_
  | with_reducible refine w_andV ?_
  | with_reducible refine w_orV ?_
  | with_reducible refine w_notV ?_
  | with_reducible refine w_isN ?_
  | with_reducible refine w_notN ?_
  | with_reducible refine w_un ?_
  | with_reducible refine w_rU ?_
  | with_reducible refine w_fld ?_
  | ((with_reducible apply w_fld1); (· walk_at "look"); (· assumption); (· assumption); (· exact rfl))
  | with_reducible refine w_par ?_
  | with_reducible refine w_par1 ?_
  | ((with_reducible apply w_aug); (· exact rfl))
  | with_reducible refine w_for ?_
  | with_reducible refine w_iTup ?_
  | with_reducible refine w_iList ?_
  | ((with_reducible apply w_forT); (· walk_at "look"))
  | ((with_reducible apply w_forL); (· walk_at "look"))
  | ((with_reducible apply w_inT); (· walk_at "look"); (· exact rfl); (· exact rfl))
  | ((with_reducible apply w_inL); (· walk_at "look"); (· exact rfl); (· exact rfl))
  | with_reducible refine w_lc ?_
  | ((with_reducible apply w_wipe); (· exact rfl))
  | with_reducible refine w_yes ?_
  | ((with_reducible apply w_acc); (· walk_at "look"); (· walk_at "sz"); intro H' c)
  | with_reducible refine w_rng1 ?_
  | with_reducible refine w_rng2 ?_
  | ((with_reducible apply w_rng1a); (· omega); (· omega))
  | ((with_reducible apply w_rng2a); (· omega); (· omega); (· omega); (· omega))
  | ((with_reducible apply w_gTup); (· walk_at "look"); (· exact rfl))
  | with_reducible refine w_gCons ?_
  | with_reducible refine w_gNil ?_
  | ((with_reducible apply w_cat); (· walk_at "look"); (· walk_at "look"); (· walk_at "sz"); intro p H' n)
  | ((with_reducible apply w_rep); (· walk_at "look"); (· omega); (· omega); (· walk_at "sz"); intro p H' n)
  | with_reducible refine w_zipA ?_
  | ((with_reducible apply w_zipT); (· walk_at "look"); (· walk_at "look"))
  | with_reducible refine w_meth ?_
  | ((with_reducible apply w_meth1); (· walk_at "look"); (· exact rfl))
  | ((with_reducible apply w_tupOfL); (· walk_at "look"))
  | ((with_reducible apply w_tupOfT); (· walk_at "look"))
  | with_reducible refine w_intB ?_
  | with_reducible refine w_intI ?_
  | with_reducible refine w_sl ?_
  | with_reducible refine w_part ?_
  | with_reducible refine w_part1 ?_
  | with_reducible refine w_nopart ?_
  | ((with_reducible apply w_slL); (· walk_at "look"); intro p H' n)
  | ((with_reducible apply w_isi); (· walk_at "ty"); (· exact rfl))
  | ((with_reducible apply w_all); (· walk_at "look"))
  | with_reducible refine w_sfld ?_
  | ((with_reducible apply w_kset); (· walk_at "look"); (· assumption); (· assumption); (· first | exact (by decide : 0 < 1000) | exact (by decide : 1 < 1000) | exact (by decide : 2 < 1000) | exact (by decide : 3 < 1000) | exact (by decide : 4 < 1000) | exact (by decide : 5 < 1000) | exact (by decide : 6 < 1000) | exact (by decide : 12 < 1000) | exact (by decide : 7 < 1000) | exact (by decide : 8 < 1000) | exact (by decide : 9 < 1000) | exact (by decide : 10 < 1000) | exact (by decide : 11 < 1000)); intro H' c)
  | with_reducible refine w_make ?_
  | ((with_reducible apply w_isiO); (· walk_at "look"); (· assumption); (· assumption); (· assumption); (· assumption); (· assumption); (· walk_at "isij"))
  | with_reducible refine w_strS ?_
  | ((with_reducible apply w_strI); (· first | assumption | decide))
  | with_reducible refine w_m1 ?_
  | with_reducible refine w_m1a ?_
  | ((with_reducible apply w_addS); (· first | assumption | walk_at "sz"))
  | with_reducible refine w_gSub ?_
  | ((with_reducible intro l hl); generalize hX : upd _ l _ = H'; have n := newOf hl hX; clear hX)
  | walk_at "use")
local macro_rules | `(tactic| walk_at "sy") => `(tactic| repeat walk_at "sy1")
local macro_rules | `(tactic| walk_at "fl") => `(tactic| first | exact rfl | assumption | walk_at "flx")
local macro_rules | `(tactic| walk_at "pk") => `(tactic| first | assumption | exact rfl)
local macro_rules | `(tactic| walk_at "vl") => `(tactic| first | assumption | exact rfl)
local macro_rules | `(tactic| walk_at "use") => `(tactic| first
  | with_reducible refine w_dget ?_
  | ((with_reducible apply w_dgetI); (· walk_at "look"); (· walk_at "vl"))
  | ((with_reducible apply w_dgetS); (· walk_at "look"); (· walk_at "vl"))
  | with_reducible refine w_din ?_
  | ((with_reducible apply w_dinI); (· walk_at "look"))
  | with_reducible refine w_dnin ?_
  | ((with_reducible apply w_dninI); (· walk_at "look"))
  | with_reducible refine w_dput ?_
  | ((with_reducible apply w_dputI); (· walk_at "look"); (· walk_at "sz"); (· walk_at "pk"); intro H' c)
  | ((with_reducible apply w_dputS); (· walk_at "look"); (· walk_at "sz"); (· walk_at "pk"); intro H' c)
  | with_reducible refine w_fldaug ?_
  | ((with_reducible apply w_fldaug1); (· walk_at "look"); (· assumption); (· assumption); (· exact rfl))
  | ((with_reducible apply w_fldaug2); (· walk_at "look"); (· first | exact (by decide : 12 < 1000) | exact (by decide : 4 < 1000) | exact (by decide)); intro H' c)
  | with_reducible refine w_ipI ?_
  | ((with_reducible apply w_disp); intro p H' n)
  | with_reducible refine w_pair ?_
  | with_reducible refine w_pair0 ?_
  | ((with_reducible apply w_dnewK); intro p H' n)
  | with_reducible refine w_radd ?_
  | with_reducible refine w_rsub ?_
  | ((with_reducible apply w_gUnl); (· walk_at "look"); (· exact rfl))
  | ((with_reducible apply w_eqNil); (· walk_at "look"); (· walk_at "look"))
  | ((with_reducible apply w_neNil); (· walk_at "look"); (· walk_at "look"))
  | ((with_reducible apply w_pop0); (· walk_at "look"); intro H' c)
  | ((with_reducible apply w_pop); (· walk_at "look"); (· walk_at "vl"); intro H' c)
  | ((with_reducible apply w_ext2); (· walk_at "look"); (· walk_at "look"); (· walk_at "sz"); intro H' c)
  | ((with_reducible apply w_makeN); intro x dx H' hne n)
  | with_reducible refine w_chain ?_
  | with_reducible refine w_methAt ?_
  | ((with_reducible apply w_tyD); (· walk_at "look"))
  | with_reducible refine w_iEnum ?_
  | ((with_reducible apply w_iEnum1); (· walk_at "look"))
  | with_reducible refine w_iEnumT ?_
  | ((with_reducible apply w_iEnumT1); (· walk_at "look"))
  | with_reducible refine w_max ?_
  | with_reducible refine w_gAttr ?_
  | with_reducible refine w_dget1 ?_
  | ((with_reducible apply w_isDa); (· walk_at "look"))
  | ((with_reducible apply w_dget1I); (· walk_at "look"))
  | with_reducible refine w_dpop1 ?_
  | ((with_reducible apply w_dpopI); (· walk_at "look"); (· walk_at "vl"); (· walk_at "pk"); intro H' c))
/-! ### draws -/
/-- a list that stays, whatever becomes of the object at p -/
def Stays (K : PySem.W.Frag) (H : Hp) (p a : Addr) (xs : List V) : Prop := ∀ H', SameBut p H H' → SqL K H' a xs
theorem Stays.of {K : PySem.W.Frag} {H0 H : Hp} {p a : Addr} {xs : List V} (h : SqL K H0 a xs) (s : Same H0 H) (f : H0 p = none) : Stays K H p a xs := fun H' b => Same.seq (fun x o e => b _ _ (s _ _ e) (ne_of_none e f)) h
theorem Stays.but {K : PySem.W.Frag} {H H' : Hp} {p a : Addr} {xs : List V} (h : Stays K H p a xs) (s : SameBut p H H') : Stays K H' p a xs := fun H2 b => h H2 (fun x o e n => b _ _ (s _ _ e n) n)
theorem Stays.now {K : PySem.W.Frag} {H : Hp} {p a : Addr} {xs : List V} (h : Stays K H p a xs) : SqL K H a xs := h H fun _ _ e _ => e
section
variable {P : Program} {w : World} {K : PySem.W.Frag} {mg : Str → Option Value} {base : Heap}
theorem w_lenS {H : Hp} {p : Addr} {xs : List V} {P : List V → Prop} (a : SqL K H p xs) (h : P xs) : ∃ p' ys, [V.ref p] = [.ref p'] ∧ (SqL K H p' ys ∨ SqT K H p' ys) ∧ P ys := ⟨p, xs, rfl, .inl a, h⟩
theorem w_ixS {H : Hp} {Q : VK} {p : Addr} {xs : List V} {i : Int} {v : V} (a : SqL K H p xs) (e : atI xs i = some v) (h : Q v H) : rIxL K (.ref p) (.int i) H Q := ⟨p, xs, i, v, rfl, rfl, a, e, h⟩
def spDraw (K : PySem.W.Frag) : Sp := fun vs H Q _ => ∃ (a tp : Addr) (ns : List Int) (k : Nat) (m : Int), vs = [.ref a, .ref tp, .int m] ∧ Stays K H tp a (ns.map V.int) ∧ H tp = some (.lst [.int (k : Int)]) ∧ k ≤ 1000000 ∧ 0 < m ∧
  ∀ (H' : Hp) (d : Int), Chg tp (.lst [.int (k : Int)]) (.lst [.int ((k + 1 : Nat) : Int)]) H H' → 0 ≤ d → d < m → Q (.int d) H'
theorem use_draw {H : Hp} {Q : VK} {E : XK} {a tp : Addr} {ns : List Int} {k : Nat} {m : Int} (h1 : Stays K H tp a (ns.map V.int)) (h2 : H tp = some (.lst [.int (k : Int)])) (h3 : k ≤ 1000000) (h4 : 0 < m)
    (q : ∀ (H' : Hp) (d : Int), Chg tp (.lst [.int (k : Int)]) (.lst [.int ((k + 1 : Nat) : Int)]) H H' → 0 ≤ d → d < m → Q (.int d) H') : spDraw K ([.ref a, .ref tp, .int m] ++ []) H Q E := ⟨a, tp, ns, k, m, rfl, h1, h2, h3, h4, q⟩
theorem ok_l_draw (T : Tx K mg) : FnOk P w K mg base CX0 1 T.f_l_draw T.d_l_draw ["_law_script", "_law_tape", "_law_many"] (spDraw K) := by
  refine T.F_l_draw.ok sc_l_draw (fun vs H Q E h => ?_) (fun cdv A outer s H vs Q E hr h => ?_)
  · obtain ⟨a, tp, ns, k, m, rfl, _⟩ := h
    rfl
  · obtain ⟨a, tp, ns, k, m, rfl, hS, htp, hk, hm, q⟩ := h
    refine ⟨_, (pss_cons (ps_set (i := 3) sc_l_draw.nd rfl (Or.inl rfl) (pe_ix (ix_listK (K := K) rfl) (pv 1) pe_int (fun _ _ => rfl)))
      (pss_cons (ps_asg (pe_op op_add (pv 3) pe_int) (pg_sub (pv 1) pe_int set_list))
      (pss_cons (ps_set (i := 4) sc_l_draw.nd rfl (Or.inl rfl) pe_int)
      (pss_cons (ps_if (pt_cmpR op_gt (pe_callB (len_seqK (K := K) rfl) (by rfl) T.n_len PySem.boot_len (pa_cons (pv 0) pa_nil)) pe_int (nomark _))
        (pss_one (ps_set (i := 4) sc_l_draw.nd rfl (Or.inl rfl) (pe_ix (ix_listK (K := K) rfl) (pv 0) (pe_op op_mod (pv 3) (pe_callB (len_seqK (K := K) rfl) (by rfl) T.n_len PySem.boot_len (pa_cons (pv 0) pa_nil))) (fun _ _ => rfl))))
        pss_nil)
      (pss_cons (ps_set (i := 5) sc_l_draw.nd rfl (Or.inl rfl) (pe_op op_mod (pe_op op_add (pe_op op_add (pe_op op_add (pe_op op_mul (pv 4) pe_int) (pe_op op_mul (pe_op op_mul pe_int (pv 3)) (pv 3))) (pe_op op_mul pe_int (pv 3))) pe_int) pe_int))
      (pss_cons (ps_set (i := 6) sc_l_draw.nd rfl (Or.inl rfl) (pe_op op_mod (pe_op op_mul (pe_op op_mod (pe_op op_mul (pv 5) (pv 5)) pe_int) pe_int) pe_int))
      (pss_one (ps_ret (pe_op op_mod (pe_op op_fdiv (pe_op op_mod (pe_op op_mul (pv 6) (pv 6)) pe_int) pe_int) (pv 2)))))))))), ?_⟩
    walk_at "sy"
    rename_i H1 c1
    have hS1 := (hS.but c1.but).now
    have fin : ∀ x : Int, Q (.int (x % m)) H1 := fun x => q H1 _ c1 (Int.emod_nonneg _ (by omega)) (Int.emod_lt_of_pos _ hm)
    refine w_lenS hS1 ?_
    walk_at "sy"
    by_cases h0 : 0 < (ns.map V.int).length
    · refine iteDT (by omega) ?_
      walk_at "sy"
      refine w_lenS hS1 ?_
      have m0 := Int.emod_nonneg (k : Int) (show ((ns.map V.int).length : Int) ≠ 0 by omega)
      have m1 := Int.emod_lt_of_pos (k : Int) (show (0 : Int) < ((ns.map V.int).length : Int) by omega)
      walk_at "sy"
      obtain ⟨j, hj⟩ : ∃ j : Nat, (k : Int) % ((ns.map V.int).length : Int) = (j : Int) := ⟨_, (Int.toNat_of_nonneg m0).symm⟩
      have hjl : j < ns.length := by
        rw [hj, List.length_map] at m1
        omega
      refine w_ixS (v := .int ns[j]) hS1 ?_ ?_
      · rw [hj]
        exact atI_nat (by rw [List.getElem?_map, List.getElem?_eq_getElem hjl]; rfl)
      generalize ns[j] = z
      walk_at "sy"
      exact fin _
    · refine iteDF (by omega) ?_
      walk_at "sy"
      exact fin _
end
/-! ### data that stays: none, numbers, texts, tuples of such -/
inductive Dt where
  | non
  | int (i : Int)
  | str (s : Str)
  | tup (ds : List Dt)
mutual
def dpt : Dt → Nat
  | .tup ds => 1 + dpts ds
  | _ => 0
def dpts : List Dt → Nat
  | [] => 0
  | d :: ds => max (dpt d) (dpts ds)
end
mutual
def smallD : Dt → Prop
  | .tup ds => ds.length ≤ 1000 ∧ smallDs ds
  | _ => True
def smallDs : List Dt → Prop
  | [] => True
  | d :: ds => smallD d ∧ smallDs ds
end
mutual
def IsD (H : Hp) : Dt → V → Prop
  | .non, v => v = .non
  | .int i, v => v = .int i
  | .str s, v => v = .str s
  | .tup ds, v => ∃ p vs, v = .ref p ∧ H p = some (.tup vs) ∧ IsDs H ds vs
def IsDs (H : Hp) : List Dt → List V → Prop
  | [], vs => vs = []
  | d :: ds, vs => ∃ v r, vs = v :: r ∧ IsD H d v ∧ IsDs H ds r
end
mutual
theorem IsD.keep {H H' : Hp} (k : Keep H H') : ∀ {d : Dt} {v : V}, IsD H d v → IsD H' d v
  | .non, _, h => h
  | .int _, _, h => h
  | .str _, _, h => h
  | .tup _, _, ⟨p, vs, e, h, g⟩ => ⟨p, vs, e, k _ _ h trivial, IsDs.keep k g⟩
theorem IsDs.keep {H H' : Hp} (k : Keep H H') : ∀ {ds : List Dt} {vs : List V}, IsDs H ds vs → IsDs H' ds vs
  | [], _, h => h
  | _ :: _, _, ⟨v, r, e, h, g⟩ => ⟨v, r, e, IsD.keep k h, IsDs.keep k g⟩
end
theorem IsDs.len {H : Hp} : ∀ {ds : List Dt} {vs : List V}, IsDs H ds vs → vs.length = ds.length
  | [], _, h => by
    have h : _ = _ := h
    subst h
    rfl
  | _ :: ds, _, ⟨v, r, e, _, h2⟩ => by
    subst e
    simp [IsDs.len h2]
theorem IsDs.get {H : Hp} : ∀ {ds : List Dt} {vs : List V} {i : Nat} {d : Dt}, IsDs H ds vs → ds[i]? = some d → ∃ v, vs[i]? = some v ∧ IsD H d v
  | _ :: ds, _, 0, d, ⟨v, r, e, h1, _⟩, h => by
    subst e
    simp at h
    subst h
    exact ⟨v, rfl, h1⟩
  | _ :: ds, _, i + 1, d, ⟨v, r, e, _, h2⟩, h => by
    subst e
    obtain ⟨w, q1, q2⟩ := IsDs.get (i := i) h2 (by simpa using h)
    exact ⟨w, by simpa using q1, q2⟩
theorem IsDs.at {H : Hp} {ds : List Dt} {vs : List V} {i : Nat} {v : V} (h : IsDs H ds vs) (e : vs[i]? = some v) : ∃ d, ds[i]? = some d ∧ IsD H d v := by
  have hi := (List.getElem?_eq_some_iff.mp e).1
  rw [h.len] at hi
  obtain ⟨w, h1, h2⟩ := h.get (List.getElem?_eq_getElem hi)
  rw [e] at h1
  cases h1
  exact ⟨_, List.getElem?_eq_getElem hi, h2⟩
theorem IsDs.snoc {H : Hp} {d : Dt} {v : V} (h : IsD H d v) : ∀ {ds : List Dt} {vs : List V}, IsDs H ds vs → IsDs H (ds ++ [d]) (vs ++ [v])
  | [], _, e => by
    have e : _ = _ := e
    subst e
    exact ⟨v, [], rfl, h, rfl⟩
  | _ :: _, _, ⟨w, r, e, h1, h2⟩ => by
    subst e
    exact ⟨w, _, rfl, h1, IsDs.snoc h h2⟩
theorem dpt_mem : ∀ {ds : List Dt} {d : Dt}, d ∈ ds → dpt d ≤ dpts ds
  | a :: ds, d, h => by
    simp only [dpts]
    rcases List.mem_cons.mp h with e | h
    · subst e
      omega
    · have := dpt_mem h
      omega
theorem small_mem : ∀ {ds : List Dt} {d : Dt}, smallDs ds → d ∈ ds → smallD d
  | a :: ds, d, h, m => by
    rcases List.mem_cons.mp m with e | m
    · subst e
      exact h.1
    · exact small_mem h.2 m
/-! ### alike -/
section
variable {P : Program} {w : World} {K : PySem.W.Frag} {mg : Str → Option Value} {base : Heap}
def spAlike (n : Nat) : Sp := fun vs H Q _ => ∃ (v u : V) (d : Dt), vs = [v, u] ∧ IsD H d v ∧ IsD H d u ∧ dpt d < n ∧ smallD d ∧ ∀ H', Same H H' → Q (.bl true) H'
theorem use_alike {H : Hp} {Q : VK} {E : XK} {n : Nat} {v u : V} (d : Dt) (h1 : IsD H d v) (h2 : IsD H d u) (h3 : dpt d < n) (h4 : smallD d) (q : ∀ H', Same H H' → Q (.bl true) H') : spAlike n ([v, u] ++ []) H Q E := ⟨v, u, d, rfl, h1, h2, h3, h4, q⟩
theorem all_true : ∀ n : Nat, (List.replicate n true).all id = true
  | 0 => rfl
  | n + 1 => by simp [List.replicate_succ, all_true n]
theorem rep_snoc {n : Nat} : List.replicate (n + 1) (V.bl true) = List.replicate n (V.bl true) ++ [V.bl true] := List.replicate_succ'
theorem ok_l_alike (T : Tx K mg) : ∀ n : Nat, FnOk P w K mg base CX0 (n + 1) T.f_l_alike T.d_l_alike ["_law_found", "_law_due"] (spAlike n)
  | 0 => T.F_l_alike.ok sc_l_alike (fun vs H Q E ⟨_, _, _, _, _, _, h, _⟩ => absurd h (Nat.not_lt_zero _)) (fun cdv A outer s H vs Q E hr ⟨_, _, _, _, _, _, h, _⟩ => absurd h (Nat.not_lt_zero _))
  | n + 1 => by
    have ih := ok_l_alike T n
    refine T.F_l_alike.ok sc_l_alike (fun vs H Q E h => ?_) (fun cdv A outer s H vs Q E hr h => ?_)
    · obtain ⟨v, u, d, rfl, _⟩ := h
      rfl
    · obtain ⟨v, u, d, rfl, hv, hu, hd, hs, q⟩ := h
      refine ⟨_, (pss_cons (ps_if (pt_val (pe_callB (isiK (K := K) rfl) (by rfl) T.n_isinstance PyProof.Rows.boot_isinstance (pa_cons (pv 1) (pa_cons (pe_bltn (v := .ty "tuple") (by rfl) T.n_tuple PyProof.Rows.boot_tuple rfl) pa_nil))))
        (pss_cons (ps_if (PW.pt (pw_or (pt_not (pt_val (pe_callB (isiK (K := K) rfl) (by rfl) T.n_isinstance PyProof.Rows.boot_isinstance (pa_cons (pv 0) (pa_cons (pe_bltn (v := .ty "tuple") (by rfl) T.n_tuple PyProof.Rows.boot_tuple rfl) pa_nil))))) (pw_or1 (pt_cmpR op_ne (pe_callB (len_seqK (K := K) rfl) (by rfl) T.n_len PySem.boot_len (pa_cons (pv 0) pa_nil)) (pe_callB (len_seqK (K := K) rfl) (by rfl) T.n_len PySem.boot_len (pa_cons (pv 1) pa_nil)) (nomark _)))))
          (pss_one (ps_ret pe_bl))
          pss_nil)
        (pss_one (ps_ret (pe_callB (cr_allK (K := K) rfl rfl) (by rfl) T.n_all (by decide +kernel) (pa_cons (pe_lc (own := [("_law_one", 2), ("_law_other", 3)]) (tt := tYes) rfl sc_l_alike.nd (pi_zipAK (K := K) rfl (by rfl) T.n_zip (pa_cons (pv 0) (pa_cons (pv 1) pa_nil))) (blkOk_by (own := [("_law_one", 2), ("_law_other", 3)]) (N := ["_law_found", "_law_due", "_law_one", "_law_other"]) (sc := defScope s_l_alike) (by decide +kernel)) (fun _ _ _ _ _ => pg_tupK (K := K) (n := 2) rfl rfl (pgs_cons (pg_name (i := 2) sc_l_alike.nd rfl (Or.inl rfl)) (pgs_cons (pg_name (i := 3) sc_l_alike.nd rfl (Or.inl rfl)) pgs_nil))) (fun _ _ _ _ _ => pts_nil) (fun _ _ _ _ _ => (pe_call ih (hr.mono (by omega)) rfl T.m_l_alike T.F_l_alike.kp T.B_l_alike .nil pass0 (pa_cons (pv 2) (pa_cons (pv 3) pa_nil))))) pa_nil)))))
        pss_nil)
      (pss_cons (ps_if (pt_cmp (pc_isN (pv 1)))
        (pss_one (ps_ret (pe_cmp (pc_isN (pv 0)) rfl)))
        pss_nil)
      (pss_cons (ps_if (pt_val (pe_callB (isiK (K := K) rfl) (by rfl) T.n_isinstance PyProof.Rows.boot_isinstance (pa_cons (pv 1) (pa_cons (pe_bltn (v := .ty "int") (by rfl) T.n_int PyProof.Rows.boot_int rfl) pa_nil))))
        (pss_one (ps_ret (pe_and (pe_callB (isiK (K := K) rfl) (by rfl) T.n_isinstance PyProof.Rows.boot_isinstance (pa_cons (pv 0) (pa_cons (pe_bltn (v := .ty "int") (by rfl) T.n_int PyProof.Rows.boot_int rfl) pa_nil))) (pe_and (pe_not (pe_callB (isiK (K := K) rfl) (by rfl) T.n_isinstance PyProof.Rows.boot_isinstance (pa_cons (pv 0) (pa_cons (pe_bltn (v := .ty "bool") (by rfl) T.n_bool (by decide +kernel) rfl) pa_nil)))) (pe_one ((pe_cmpR op_eq (pv 0) (pv 1) (nomark _))))))))
        pss_nil)
      (pss_one (ps_ret (pe_and (pe_callB (isiK (K := K) rfl) (by rfl) T.n_isinstance PyProof.Rows.boot_isinstance (pa_cons (pv 0) (pa_cons (pe_bltn (v := .ty "str") (by rfl) T.n_str PyProof.Rows.boot_str rfl) pa_nil))) (pe_one ((pe_cmpR op_eq (pv 0) (pv 1) (nomark _)))))))))), ?_⟩
      cases d with
      | non =>
        obtain rfl : v = .non := hv
        obtain rfl : u = .non := hu
        walk_at "sy"
        exact q _ (Same.refl _)
      | int i =>
        obtain rfl : v = .int i := hv
        obtain rfl : u = .int i := hu
        walk_at "sy"
        rw [decide_eq_true rfl]
        exact q _ (Same.refl _)
      | str s =>
        obtain rfl : v = .str s := hv
        obtain rfl : u = .str s := hu
        walk_at "sy"
        rw [decide_eq_true rfl]
        exact q _ (Same.refl _)
      | tup ds =>
        obtain ⟨p, vs, rfl, hp, hvs⟩ := hv
        obtain ⟨r, us, rfl, hr', hus⟩ := hu
        have hl1 := hvs.len
        have hl2 := hus.len
        have hs1 := hs.1
        simp only [dpt] at hd
        walk_at "sy"
        refine k_lcZ vs us (by omega) (fun D i H2 => Same H H2 ∧ H2 D = some (.lst (List.replicate i (.bl true)))) (fun D H' n => ⟨n.same, n.at_⟩) (fun D i H2 h => ⟨SqT.of (h.1 _ _ hp), SqT.of (h.1 _ _ hr')⟩) ?_ ?_
        · rintro D hD i x y Tt H2 H3 hx hy ⟨sx, hDx⟩ nT
          obtain ⟨d, hd1, hd2⟩ := hvs.at hx
          obtain ⟨d', hd1', hd2'⟩ := hus.at hy
          rw [hd1] at hd1'
          cases hd1'
          have hm := List.mem_of_getElem? hd1
          have hdm := dpt_mem hm
          have hi := (List.getElem?_eq_some_iff.mp hx).1
          walk_at "sy"
          refine use_alike d (hd2.keep (by walk_at "kp")) (hd2'.keep (by walk_at "kp")) (by omega) (small_mem hs.2 hm) (fun H4 s4 => ?_)
          walk_at "sy"
          rename_i H5 c5
          refine ⟨c5.sameOwn (Same.trans (nT.same.trans s4) (Same.refl _) |> sx.trans) hD, ?_⟩
          rw [rep_snoc]
          exact c5.at_
        · rintro D hD H2 ⟨sx, hDx⟩
          walk_at "sy"
          refine w_all (bs := List.replicate vs.length true) (by rw [List.map_replicate]; exact hDx) ?_
          rw [all_true]
          exact q _ sx
end
/-! ### rows of numbers as data; what they do -/
inductive At where
  | num (n : Nat)
  | nam (s : Str)
inductive Nr where
  | set (x : Str) (a : At) (g : Str) (b : At)
  | ask (x : Str)
  | tell (a : At)
  | iff (a : At) (rs os : List Nr)
  | whl (a : At) (rs : List Nr)
def atD : At → Dt
  | .num n => .int (n : Int)
  | .nam s => .str s
mutual
def toldN : Nr → Dt
  | .set x a g b => .tup [.str "set", .str x, atD a, .str g, atD b]
  | .ask x => .tup [.str "ask", .str x]
  | .tell a => .tup [.str "tell", atD a]
  | .iff a rs os => .tup [.str "if", atD a, .tup (toldNs rs), .tup (toldNs os)]
  | .whl a rs => .tup [.str "while", atD a, .tup (toldNs rs)]
def toldNs : List Nr → List Dt
  | [] => []
  | r :: rs => toldN r :: toldNs rs
end
theorem toldNs_eq : ∀ rs : List Nr, toldNs rs = rs.map toldN
  | [] => rfl
  | r :: rs => by
    show toldN r :: toldNs rs = toldN r :: rs.map toldN
    rw [toldNs_eq rs]
abbrev PRM : Int := 1000003
def atOk : At → Prop
  | .num n => (n : Int) < PRM
  | .nam _ => True
def signs : List Str := ["", "+", "-", "*", "<", "="]
def okN : Nat → Nr → Prop
  | _, .set _ a g b => atOk a ∧ g ∈ signs ∧ atOk b
  | _, .ask _ => True
  | _, .tell a => atOk a
  | 0, .iff _ _ _ => False
  | 0, .whl _ _ => False
  | d + 1, .iff a rs os => atOk a ∧ rs.length ≤ 1000 ∧ os.length ≤ 1000 ∧ (∀ r ∈ rs, okN d r) ∧ ∀ r ∈ os, okN d r
  | d + 1, .whl a rs => atOk a ∧ rs.length ≤ 1000 ∧ ∀ r ∈ rs, okN d r
theorem okN_up : ∀ {d : Nat} {r : Nr}, okN d r → okN (d + 1) r
  | 0, .set _ _ _ _, h => h
  | 0, .ask _, h => h
  | 0, .tell _, h => h
  | _ + 1, .set _ _ _ _, h => h
  | _ + 1, .ask _, h => h
  | _ + 1, .tell _, h => h
  | d + 1, .iff a rs os, ⟨h1, h2, h3, h4, h5⟩ => ⟨h1, h2, h3, fun r m => okN_up (h4 r m), fun r m => okN_up (h5 r m)⟩
  | d + 1, .whl a rs, ⟨h1, h2, h3⟩ => ⟨h1, h2, fun r m => okN_up (h3 r m)⟩
theorem okN_le {d : Nat} {r : Nr} (h : okN d r) : ∀ {e : Nat}, d ≤ e → okN e r
  | 0, l => by
    obtain rfl : d = 0 := by omega
    exact h
  | e + 1, l => by
    by_cases q : d = e + 1
    · rw [← q]
      exact h
    · exact okN_up (okN_le h (by omega))
def isNum : Nr → Bool
  | .set _ _ _ _ => true
  | .ask _ => true
  | .tell _ => true
  | _ => false
abbrev En := List (Str × Int)
def lookE : En → Str → Option Int
  | [], _ => none
  | p :: l, k => if p.1 = k then some p.2 else lookE l k
def putE (l : En) (k : Str) (v : Int) : En := if l.any (fun p => decide (p.1 = k)) then l.map (fun p => if p.1 = k then (p.1, v) else p) else l ++ [(k, v)]
structure S where
  t : Nat
  k : Nat
  told : List Int
  env : En
def S.tick (s : S) : S := { s with t := s.t - 1 }
def val (s : S) : At → Int
  | .num n => n
  | .nam x => (lookE s.env x).getD 0
def reck (one : Int) (g : Str) (other : Int) : Int :=
  if g = Str.ofString "+" then (one + other) % PRM
  else if g = Str.ofString "-" then (one - other) % PRM
  else if g = Str.ofString "*" then one * other % PRM
  else if g = Str.ofString "<" then (if one < other then 1 else 0)
  else if g = Str.ofString "=" then (if one = other then 1 else 0)
  else one
def inp (ins : List Int) (k : Nat) : Int := match ins[k]? with
  | some v => v % PRM
  | none => 0
def numR (ins : List Int) : Nr → S → S
  | .set x a g b, s => { s with env := putE s.env x (reck (val s a) g (val s b)) }
  | .ask x, s => { s with k := s.k + 1, env := putE s.env x (inp ins s.k) }
  | .tell a, s => { s with told := s.told ++ [val s a] }
  | _, s => s
mutual
inductive Go (ins : List Int) : List Nr → S → S × Bool → Prop
  | nil {s : S} : Go ins [] s (s, false)
  | dry {r : Nr} {rs : List Nr} {s : S} : s.t = 0 → Go ins (r :: rs) s (s, true)
  | stop {r : Nr} {rs : List Nr} {s s' : S} : 0 < s.t → Do ins r s.tick (s', true) → Go ins (r :: rs) s (s', true)
  | next {r : Nr} {rs : List Nr} {s s' : S} {o : S × Bool} : 0 < s.t → Do ins r s.tick (s', false) → Go ins rs s' o → Go ins (r :: rs) s o
inductive Do (ins : List Int) : Nr → S → S × Bool → Prop
  | num {r : Nr} {s : S} : isNum r = true → Do ins r s (numR ins r s, false)
  | iff {a : At} {rs os : List Nr} {s : S} {o : S × Bool} : Go ins (if val s a = 0 then os else rs) s o → Do ins (.iff a rs os) s o
  | whl0 {a : At} {rs : List Nr} {s : S} : val s a = 0 → Do ins (.whl a rs) s (s, false)
  | whlS {a : At} {rs : List Nr} {s s' : S} : val s a ≠ 0 → Go ins rs s (s', true) → Do ins (.whl a rs) s (s', true)
  | whlD {a : At} {rs : List Nr} {s s' : S} : val s a ≠ 0 → Go ins rs s (s', false) → s'.t = 0 → Do ins (.whl a rs) s (s', true)
  | whlN {a : At} {rs : List Nr} {s s' : S} {o : S × Bool} : val s a ≠ 0 → Go ins rs s (s', false) → 0 < s'.t → Do ins (.whl a rs) s'.tick o → Do ins (.whl a rs) s o
end
theorem Go.det {ins : List Int} {rs : List Nr} {s : S} {o : S × Bool} (h : Go ins rs s o) : ∀ {o' : S × Bool}, Go ins rs s o' → o = o' := by
  refine Go.rec (ins := ins) (motive_1 := fun rs s o _ => ∀ {o' : S × Bool}, Go ins rs s o' → o = o') (motive_2 := fun r s o _ => ∀ {o' : S × Bool}, Do ins r s o' → o = o') ?_ ?_ ?_ ?_ ?_ ?_ ?_ ?_ ?_ ?_ h
  · intro s o' g
    cases g
    rfl
  · intro r rs s h1 o' g
    cases g with
    | dry _ => rfl
    | stop g1 _ => omega
    | next g1 _ _ => omega
  · intro r rs s s' h1 h2 ih o' g
    cases g with
    | dry g1 => omega
    | stop _ g2 => exact ih g2
    | next _ g2 _ => cases ih g2
  · intro r rs s s' o h1 h2 h3 ih2 ih3 o' g
    cases g with
    | dry g1 => omega
    | stop _ g2 => cases ih2 g2
    | next _ g2 g3 =>
      cases ih2 g2
      exact ih3 g3
  · intro r s hr o' g
    cases g with
    | num _ => rfl
    | iff _ => cases hr
    | whl0 _ => cases hr
    | whlS _ _ => cases hr
    | whlD _ _ _ => cases hr
    | whlN _ _ _ _ => cases hr
  · intro a rs os s o h1 ih o' g
    cases g with
    | num hr => cases hr
    | iff g1 => exact ih g1
  · intro a rs s h1 o' g
    cases g with
    | num hr => cases hr
    | whl0 _ => rfl
    | whlS g1 _ => exact absurd h1 g1
    | whlD g1 _ _ => exact absurd h1 g1
    | whlN g1 _ _ _ => exact absurd h1 g1
  · intro a rs s s' h1 h2 ih o' g
    cases g with
    | num hr => cases hr
    | whl0 g1 => exact absurd g1 h1
    | whlS _ g2 => exact ih g2
    | whlD _ g2 _ => cases ih g2
    | whlN _ g2 _ _ => cases ih g2
  · intro a rs s s' h1 h2 h3 ih o' g
    cases g with
    | num hr => cases hr
    | whl0 g1 => exact absurd g1 h1
    | whlS _ g2 => cases ih g2
    | whlD _ g2 _ =>
      cases ih g2
      rfl
    | whlN _ g2 g3 _ =>
      cases ih g2
      omega
  · intro a rs s s' o h1 h2 h3 h4 ih2 ih4 o' g
    cases g with
    | num hr => cases hr
    | whl0 g1 => exact absurd g1 h1
    | whlS _ g2 => cases ih2 g2
    | whlD _ g2 g3 =>
      cases ih2 g2
      omega
    | whlN _ g2 g3 g4 =>
      cases ih2 g2
      exact ih4 g4
/-! bounds -/
structure SOk (b : Nat) (s : S) : Prop where
  a : s.told.length + s.t ≤ b
  e : s.env.length + s.t ≤ b
  r : ∀ p ∈ s.env, 0 ≤ p.2 ∧ p.2 < PRM
theorem SOk.mono {b c : Nat} {s : S} (h : SOk b s) (l : b ≤ c) : SOk c s := ⟨Nat.le_trans h.a l, Nat.le_trans h.e l, h.r⟩
theorem SOk.tick {b : Nat} {s : S} (h : SOk b s) (p : 0 < s.t) : SOk (b - 1) s.tick := ⟨by have := h.a; show s.told.length + (s.t - 1) ≤ _; omega, by have := h.e; show s.env.length + (s.t - 1) ≤ _; omega, h.r⟩
theorem lookE_mem : ∀ {l : En} {k : Str} {v : Int}, lookE l k = some v → ∃ p ∈ l, p.2 = v
  | p :: l, k, v, h => by
    unfold lookE at h
    split at h
    · exact ⟨p, List.mem_cons_self, Option.some.inj h⟩
    · obtain ⟨q, m, e⟩ := lookE_mem h
      exact ⟨q, List.mem_cons_of_mem _ m, e⟩
theorem val_in {b : Nat} {s : S} {a : At} (h : SOk b s) (ha : atOk a) : 0 ≤ val s a ∧ val s a < PRM := by
  cases a with
  | num n => exact ⟨Int.natCast_nonneg _, ha⟩
  | nam x =>
    show 0 ≤ (lookE s.env x).getD 0 ∧ (lookE s.env x).getD 0 < PRM
    cases e : lookE s.env x with
    | none => exact ⟨by decide, by decide⟩
    | some v =>
      obtain ⟨p, m, rfl⟩ := lookE_mem e
      exact h.r p m
theorem reck_in {one other : Int} {g : Str} (h : 0 ≤ one ∧ one < PRM) : 0 ≤ reck one g other ∧ reck one g other < PRM := by
  have hm : ∀ x : Int, 0 ≤ x % PRM ∧ x % PRM < PRM := fun x => ⟨Int.emod_nonneg _ (by decide), Int.emod_lt_of_pos _ (by decide)⟩
  unfold reck
  repeat' split
  all_goals first
    | exact hm _
    | exact h
    | exact ⟨by decide, by decide⟩
theorem inp_in (ins : List Int) (k : Nat) : 0 ≤ inp ins k ∧ inp ins k < PRM := by
  unfold inp
  split
  · exact ⟨Int.emod_nonneg _ (by decide), Int.emod_lt_of_pos _ (by decide)⟩
  · exact ⟨by decide, by decide⟩
theorem putE_len (l : En) (k : Str) (v : Int) : (putE l k v).length ≤ l.length + 1 := by
  unfold putE
  split
  · rw [List.length_map]
    omega
  · rw [List.length_append]
    exact Nat.le_refl _
theorem putE_in {l : En} {k : Str} {v : Int} (h : ∀ p ∈ l, 0 ≤ p.2 ∧ p.2 < PRM) (hv : 0 ≤ v ∧ v < PRM) : ∀ p ∈ putE l k v, 0 ≤ p.2 ∧ p.2 < PRM := by
  unfold putE
  split
  · intro p m
    obtain ⟨q, hq, rfl⟩ := List.mem_map.mp m
    split
    · exact hv
    · exact h q hq
  · intro p m
    rcases List.mem_append.mp m with m | m
    · exact h p m
    · obtain rfl : p = (k, v) := by simpa using m
      exact hv
theorem numR_ok {b : Nat} {d : Nat} {s : S} {r : Nr} {ins : List Int} (h : SOk b s) (hr : okN d r) : SOk (b + 1) (numR ins r s) := by
  have h1 := h.a
  have h2 := h.e
  cases r with
  | set x a g c =>
    have ha : atOk a := by cases d <;> exact hr.1
    have := putE_len s.env x (reck (val s a) g (val s c))
    exact ⟨by show s.told.length + s.t ≤ _; omega, by show (putE _ _ _).length + s.t ≤ _; omega, putE_in h.r (reck_in (val_in h ha))⟩
  | ask x =>
    have := putE_len s.env x (inp ins s.k)
    exact ⟨by show s.told.length + s.t ≤ _; omega, by show (putE _ _ _).length + s.t ≤ _; omega, putE_in h.r (inp_in ins s.k)⟩
  | tell a => exact ⟨by show (s.told ++ [_]).length + s.t ≤ _; rw [List.length_append]; show s.told.length + 1 + s.t ≤ _; omega, by show s.env.length + s.t ≤ _; omega, h.r⟩
  | iff a rs os => exact h.mono (Nat.le_succ _)
  | whl a rs => exact h.mono (Nat.le_succ _)
theorem Go.ok {ins : List Int} {rs : List Nr} {s : S} {o : S × Bool} (h : Go ins rs s o) : ∀ {b d : Nat}, SOk b s → (∀ r ∈ rs, okN d r) → SOk b o.1 := by
  refine Go.rec (ins := ins) (motive_1 := fun rs s o _ => ∀ {b d : Nat}, SOk b s → (∀ r ∈ rs, okN d r) → SOk b o.1) (motive_2 := fun r s o _ => ∀ {b d : Nat}, SOk b s → okN d r → SOk (b + 1) o.1) ?_ ?_ ?_ ?_ ?_ ?_ ?_ ?_ ?_ ?_ h
  · exact fun hs _ => hs
  · exact fun _ _ _ hs _ => hs
  · intro r rs s s' h1 h2 ih b d hs hr
    have hb : 0 < b := by have := hs.a; omega
    have := ih (hs.tick h1) (hr _ List.mem_cons_self)
    rwa [Nat.sub_add_cancel hb] at this
  · intro r rs s s' o h1 h2 h3 ih2 ih3 b d hs hr
    have hb : 0 < b := by have := hs.a; omega
    have := ih2 (hs.tick h1) (hr _ List.mem_cons_self)
    rw [Nat.sub_add_cancel hb] at this
    exact ih3 this fun r m => hr r (List.mem_cons_of_mem _ m)
  · exact fun _ _ _ hs hr => numR_ok hs hr
  · intro a rs os s o h1 ih b d hs hr
    cases d with
    | zero => exact hr.elim
    | succ d =>
      obtain ⟨_, _, _, g1, g2⟩ := hr
      refine (ih (d := d) hs ?_).mono (Nat.le_succ _)
      split
      · exact g2
      · exact g1
  · exact fun _ _ _ hs _ => hs.mono (Nat.le_succ _)
  · intro a rs s s' h1 h2 ih b d hs hr
    cases d with
    | zero => exact hr.elim
    | succ d => exact (ih (d := d) hs hr.2.2).mono (Nat.le_succ _)
  · intro a rs s s' h1 h2 h3 ih b d hs hr
    cases d with
    | zero => exact hr.elim
    | succ d => exact (ih (d := d) hs hr.2.2).mono (Nat.le_succ _)
  · intro a rs s s' o h1 h2 h3 h4 ih2 ih4 b d hs hr
    cases d with
    | zero => exact hr.elim
    | succ d =>
      have := ih2 (d := d) hs hr.2.2
      exact ih4 (d := d + 1) ((this.tick h3).mono (Nat.sub_le _ _)) hr
theorem Do.ok {ins : List Int} {r : Nr} {s : S} {o : S × Bool} (h : Do ins r s o) {b d : Nat} (hs : SOk b s) (hr : okN d r) : SOk (b + 1) o.1 := by
  let s1 : S := { s with t := s.t + 1 }
  have e : s1.tick = s := rfl
  have h1 : SOk (b + 1) s1 := ⟨by have := hs.a; show s.told.length + (s.t + 1) ≤ _; omega, by have := hs.e; show s.env.length + (s.t + 1) ≤ _; omega, hs.r⟩
  have g : Go ins [r] s1 o := by
    obtain ⟨s', b'⟩ := o
    cases b' with
    | true => exact .stop (Nat.succ_pos _) (by rw [e]; exact h)
    | false => exact .next (Nat.succ_pos _) (by rw [e]; exact h) .nil
  exact Go.ok (d := d) g h1 fun r' m => by
    obtain rfl : r' = r := by simpa using m
    exact hr
/-! ### classes that only lay their fields (printed by mkcls.py) -/
section
variable {P : Program} {w : World} {K : PySem.W.Frag} {mg : Str → Option Value} {base : Heap}
abbrev fsSetRow (v0 v1 v2 v3 : V) : List (Str × V) := putF "other" v3 (putF "sign" v2 (putF "one" v1 (putF "name" v0 [])))
def spInitSetRow (T : Tx K mg) : Sp := fun vs H Q _ => ∃ (x dx : Addr) (v0 v1 v2 v3 : V), vs = [.ref x, v0, v1, v2, v3] ∧ H x = some (.ins T.a_SetRow dx []) ∧ ∀ H', SameBut x H H' → H' x = some (.ins T.a_SetRow dx (fsSetRow v0 v1 v2 v3)) → Q .non H'
theorem ok_SetRow_init (T : Tx K mg) : FnOk P w K mg base CX0 1 T.f_SetRow_init T.d_SetRow_init ["self", "name", "one", "sign", "other"] (spInitSetRow T) := by
  refine T.F_SetRow_init.ok sc_SetRow_init (fun vs H Q E h => ?_) (fun cdv A outer s H vs Q E hr h => ?_)
  · obtain ⟨x, dx, v0, v1, v2, v3, rfl, _⟩ := h
    rfl
  · obtain ⟨x, dx, v0, v1, v2, v3, rfl, hx, q⟩ := h
    refine ⟨_, (pss_cons (ps_fld (pv 0) (pv 1) rfl)
      (pss_cons (ps_fld (pv 0) (pv 2) rfl)
      (pss_cons (ps_fld (pv 0) (pv 3) rfl)
      (pss_one (ps_fld (pv 0) (pv 4) rfl))))), ?_⟩
    have ccl := T.cl_SetRow
    have na0 := T.na_SetRow_name
    have na1 := T.na_SetRow_one
    have na2 := T.na_SetRow_sign
    have na3 := T.na_SetRow_other
    walk_at "sy"
    exact q _ (by walk_at "bt") (by walk_at "look")
theorem use_SetRow {T : Tx K mg} {H : Hp} {Q : VK} {E : XK} {v0 v1 v2 v3 : V} (h : ∀ (x dx : Addr) (H' : Hp), New x (.ins T.a_SetRow dx (fsSetRow v0 v1 v2 v3)) H H' → Q (.ref x) H') : kMake T.a_SetRow (spInitSetRow T) [] E [v0, v1, v2, v3] H Q := by
  intro x dx hx hd hne
  refine ⟨x, dx, v0, v1, v2, v3, rfl, upd_same, fun H' sb hx' => ⟨rfl, h x dx H' ⟨hx, hx', sb.made hx hd⟩⟩⟩
abbrev fsAskRow (v0 : V) : List (Str × V) := putF "name" v0 []
def spInitAskRow (T : Tx K mg) : Sp := fun vs H Q _ => ∃ (x dx : Addr) (v0 : V), vs = [.ref x, v0] ∧ H x = some (.ins T.a_AskRow dx []) ∧ ∀ H', SameBut x H H' → H' x = some (.ins T.a_AskRow dx (fsAskRow v0)) → Q .non H'
theorem ok_AskRow_init (T : Tx K mg) : FnOk P w K mg base CX0 1 T.f_AskRow_init T.d_AskRow_init ["self", "name"] (spInitAskRow T) := by
  refine T.F_AskRow_init.ok sc_AskRow_init (fun vs H Q E h => ?_) (fun cdv A outer s H vs Q E hr h => ?_)
  · obtain ⟨x, dx, v0, rfl, _⟩ := h
    rfl
  · obtain ⟨x, dx, v0, rfl, hx, q⟩ := h
    refine ⟨_, (pss_one (ps_fld (pv 0) (pv 1) rfl)), ?_⟩
    have ccl := T.cl_AskRow
    have na0 := T.na_AskRow_name
    walk_at "sy"
    exact q _ (by walk_at "bt") (by walk_at "look")
theorem use_AskRow {T : Tx K mg} {H : Hp} {Q : VK} {E : XK} {v0 : V} (h : ∀ (x dx : Addr) (H' : Hp), New x (.ins T.a_AskRow dx (fsAskRow v0)) H H' → Q (.ref x) H') : kMake T.a_AskRow (spInitAskRow T) [] E [v0] H Q := by
  intro x dx hx hd hne
  refine ⟨x, dx, v0, rfl, upd_same, fun H' sb hx' => ⟨rfl, h x dx H' ⟨hx, hx', sb.made hx hd⟩⟩⟩
abbrev fsTellRow (v0 : V) : List (Str × V) := putF "atom" v0 []
def spInitTellRow (T : Tx K mg) : Sp := fun vs H Q _ => ∃ (x dx : Addr) (v0 : V), vs = [.ref x, v0] ∧ H x = some (.ins T.a_TellRow dx []) ∧ ∀ H', SameBut x H H' → H' x = some (.ins T.a_TellRow dx (fsTellRow v0)) → Q .non H'
theorem ok_TellRow_init (T : Tx K mg) : FnOk P w K mg base CX0 1 T.f_TellRow_init T.d_TellRow_init ["self", "atom"] (spInitTellRow T) := by
  refine T.F_TellRow_init.ok sc_TellRow_init (fun vs H Q E h => ?_) (fun cdv A outer s H vs Q E hr h => ?_)
  · obtain ⟨x, dx, v0, rfl, _⟩ := h
    rfl
  · obtain ⟨x, dx, v0, rfl, hx, q⟩ := h
    refine ⟨_, (pss_one (ps_fld (pv 0) (pv 1) rfl)), ?_⟩
    have ccl := T.cl_TellRow
    have na0 := T.na_TellRow_atom
    walk_at "sy"
    exact q _ (by walk_at "bt") (by walk_at "look")
theorem use_TellRow {T : Tx K mg} {H : Hp} {Q : VK} {E : XK} {v0 : V} (h : ∀ (x dx : Addr) (H' : Hp), New x (.ins T.a_TellRow dx (fsTellRow v0)) H H' → Q (.ref x) H') : kMake T.a_TellRow (spInitTellRow T) [] E [v0] H Q := by
  intro x dx hx hd hne
  refine ⟨x, dx, v0, rfl, upd_same, fun H' sb hx' => ⟨rfl, h x dx H' ⟨hx, hx', sb.made hx hd⟩⟩⟩
abbrev fsIfRow (v0 v1 v2 : V) : List (Str × V) := putF "others" v2 (putF "rows" v1 (putF "atom" v0 []))
def spInitIfRow (T : Tx K mg) : Sp := fun vs H Q _ => ∃ (x dx : Addr) (v0 v1 v2 : V), vs = [.ref x, v0, v1, v2] ∧ H x = some (.ins T.a_IfRow dx []) ∧ (∃ (q : Addr) (us : List V), v1 = .ref q ∧ H q = some (.tup us)) ∧ (∃ (q : Addr) (us : List V), v2 = .ref q ∧ H q = some (.tup us)) ∧ ∀ H', SameBut x H H' → H' x = some (.ins T.a_IfRow dx (fsIfRow v0 v1 v2)) → Q .non H'
theorem ok_IfRow_init (T : Tx K mg) : FnOk P w K mg base CX0 1 T.f_IfRow_init T.d_IfRow_init ["self", "atom", "rows", "others"] (spInitIfRow T) := by
  refine T.F_IfRow_init.ok sc_IfRow_init (fun vs H Q E h => ?_) (fun cdv A outer s H vs Q E hr h => ?_)
  · obtain ⟨x, dx, v0, v1, v2, rfl, _⟩ := h
    rfl
  · obtain ⟨x, dx, v0, v1, v2, rfl, hx, ⟨q1, us1, rfl, hq1⟩, ⟨q2, us2, rfl, hq2⟩, q⟩ := h
    refine ⟨_, (pss_cons (ps_fld (pv 0) (pv 1) rfl)
      (pss_cons (ps_fld (pv 0) (pe_callTy (tuple_ofK (K := K) rfl) (by rfl) T.n_tuple PyProof.Rows.boot_tuple (pa_cons (pv 2) pa_nil)) rfl)
      (pss_one (ps_fld (pv 0) (pe_callTy (tuple_ofK (K := K) rfl) (by rfl) T.n_tuple PyProof.Rows.boot_tuple (pa_cons (pv 3) pa_nil)) rfl)))), ?_⟩
    have ccl := T.cl_IfRow
    have na0 := T.na_IfRow_atom
    have na1 := T.na_IfRow_rows
    have na2 := T.na_IfRow_others
    walk_at "sy"
    exact q _ (by walk_at "bt") (by walk_at "look")
theorem use_IfRow {T : Tx K mg} {H : Hp} {Q : VK} {E : XK} {v0 v1 v2 : V} {q1 : Addr} {us1 : List V} (e1 : v1 = .ref q1) (hq1 : H q1 = some (.tup us1)) {q2 : Addr} {us2 : List V} (e2 : v2 = .ref q2) (hq2 : H q2 = some (.tup us2)) (h : ∀ (x dx : Addr) (H' : Hp), New x (.ins T.a_IfRow dx (fsIfRow v0 v1 v2)) H H' → Q (.ref x) H') : kMake T.a_IfRow (spInitIfRow T) [] E [v0, v1, v2] H Q := by
  intro x dx hx hd hne
  refine ⟨x, dx, v0, v1, v2, rfl, upd_same, ⟨q1, us1, e1, by rw [upd_ne (ne_of_none hq1 hx), upd_ne (ne_of_none hq1 hd)]; exact hq1⟩, ⟨q2, us2, e2, by rw [upd_ne (ne_of_none hq2 hx), upd_ne (ne_of_none hq2 hd)]; exact hq2⟩, fun H' sb hx' => ⟨rfl, h x dx H' ⟨hx, hx', sb.made hx hd⟩⟩⟩
abbrev fsWhileRow (v0 v1 : V) : List (Str × V) := putF "rows" v1 (putF "atom" v0 [])
def spInitWhileRow (T : Tx K mg) : Sp := fun vs H Q _ => ∃ (x dx : Addr) (v0 v1 : V), vs = [.ref x, v0, v1] ∧ H x = some (.ins T.a_WhileRow dx []) ∧ (∃ (q : Addr) (us : List V), v1 = .ref q ∧ H q = some (.tup us)) ∧ ∀ H', SameBut x H H' → H' x = some (.ins T.a_WhileRow dx (fsWhileRow v0 v1)) → Q .non H'
theorem ok_WhileRow_init (T : Tx K mg) : FnOk P w K mg base CX0 1 T.f_WhileRow_init T.d_WhileRow_init ["self", "atom", "rows"] (spInitWhileRow T) := by
  refine T.F_WhileRow_init.ok sc_WhileRow_init (fun vs H Q E h => ?_) (fun cdv A outer s H vs Q E hr h => ?_)
  · obtain ⟨x, dx, v0, v1, rfl, _⟩ := h
    rfl
  · obtain ⟨x, dx, v0, v1, rfl, hx, ⟨q1, us1, rfl, hq1⟩, q⟩ := h
    refine ⟨_, (pss_cons (ps_fld (pv 0) (pv 1) rfl)
      (pss_one (ps_fld (pv 0) (pe_callTy (tuple_ofK (K := K) rfl) (by rfl) T.n_tuple PyProof.Rows.boot_tuple (pa_cons (pv 2) pa_nil)) rfl))), ?_⟩
    have ccl := T.cl_WhileRow
    have na0 := T.na_WhileRow_atom
    have na1 := T.na_WhileRow_rows
    walk_at "sy"
    exact q _ (by walk_at "bt") (by walk_at "look")
theorem use_WhileRow {T : Tx K mg} {H : Hp} {Q : VK} {E : XK} {v0 v1 : V} {q1 : Addr} {us1 : List V} (e1 : v1 = .ref q1) (hq1 : H q1 = some (.tup us1)) (h : ∀ (x dx : Addr) (H' : Hp), New x (.ins T.a_WhileRow dx (fsWhileRow v0 v1)) H H' → Q (.ref x) H') : kMake T.a_WhileRow (spInitWhileRow T) [] E [v0, v1] H Q := by
  intro x dx hx hd hne
  refine ⟨x, dx, v0, v1, rfl, upd_same, ⟨q1, us1, e1, by rw [upd_ne (ne_of_none hq1 hx), upd_ne (ne_of_none hq1 hd)]; exact hq1⟩, fun H' sb hx' => ⟨rfl, h x dx H' ⟨hx, hx', sb.made hx hd⟩⟩⟩
abbrev fsHelper (v0 v1 v2 v3 : V) : List (Str × V) := putF "rows" v3 (putF "gives" v2 (putF "params" v1 (putF "name" v0 [])))
def spInitHelper (T : Tx K mg) : Sp := fun vs H Q _ => ∃ (x dx : Addr) (v0 v1 v2 v3 : V), vs = [.ref x, v0, v1, v2, v3] ∧ H x = some (.ins T.a_Helper dx []) ∧ (∃ (q : Addr) (us : List V), v1 = .ref q ∧ H q = some (.tup us)) ∧ (∃ (q : Addr) (us : List V), v3 = .ref q ∧ H q = some (.tup us)) ∧ ∀ H', SameBut x H H' → H' x = some (.ins T.a_Helper dx (fsHelper v0 v1 v2 v3)) → Q .non H'
theorem ok_Helper_init (T : Tx K mg) : FnOk P w K mg base CX0 1 T.f_Helper_init T.d_Helper_init ["self", "name", "params", "gives", "rows"] (spInitHelper T) := by
  refine T.F_Helper_init.ok sc_Helper_init (fun vs H Q E h => ?_) (fun cdv A outer s H vs Q E hr h => ?_)
  · obtain ⟨x, dx, v0, v1, v2, v3, rfl, _⟩ := h
    rfl
  · obtain ⟨x, dx, v0, v1, v2, v3, rfl, hx, ⟨q1, us1, rfl, hq1⟩, ⟨q3, us3, rfl, hq3⟩, q⟩ := h
    refine ⟨_, (pss_cons (ps_fld (pv 0) (pv 1) rfl)
      (pss_cons (ps_fld (pv 0) (pe_callTy (tuple_ofK (K := K) rfl) (by rfl) T.n_tuple PyProof.Rows.boot_tuple (pa_cons (pv 2) pa_nil)) rfl)
      (pss_cons (ps_fld (pv 0) (pv 3) rfl)
      (pss_one (ps_fld (pv 0) (pe_callTy (tuple_ofK (K := K) rfl) (by rfl) T.n_tuple PyProof.Rows.boot_tuple (pa_cons (pv 4) pa_nil)) rfl))))), ?_⟩
    have ccl := T.cl_Helper
    have na0 := T.na_Helper_name
    have na1 := T.na_Helper_params
    have na2 := T.na_Helper_gives
    have na3 := T.na_Helper_rows
    walk_at "sy"
    exact q _ (by walk_at "bt") (by walk_at "look")
theorem use_Helper {T : Tx K mg} {H : Hp} {Q : VK} {E : XK} {v0 v1 v2 v3 : V} {q1 : Addr} {us1 : List V} (e1 : v1 = .ref q1) (hq1 : H q1 = some (.tup us1)) {q3 : Addr} {us3 : List V} (e3 : v3 = .ref q3) (hq3 : H q3 = some (.tup us3)) (h : ∀ (x dx : Addr) (H' : Hp), New x (.ins T.a_Helper dx (fsHelper v0 v1 v2 v3)) H H' → Q (.ref x) H') : kMake T.a_Helper (spInitHelper T) [] E [v0, v1, v2, v3] H Q := by
  intro x dx hx hd hne
  refine ⟨x, dx, v0, v1, v2, v3, rfl, upd_same, ⟨q1, us1, e1, by rw [upd_ne (ne_of_none hq1 hx), upd_ne (ne_of_none hq1 hd)]; exact hq1⟩, ⟨q3, us3, e3, by rw [upd_ne (ne_of_none hq3 hx), upd_ne (ne_of_none hq3 hd)]; exact hq3⟩, fun H' sb hx' => ⟨rfl, h x dx H' ⟨hx, hx', sb.made hx hd⟩⟩⟩
abbrev fsProgram (v0 v1 : V) : List (Str × V) := putF "helpers" v1 (putF "records" v0 [])
def spInitProgram (T : Tx K mg) : Sp := fun vs H Q _ => ∃ (x dx : Addr) (v0 v1 : V), vs = [.ref x, v0, v1] ∧ H x = some (.ins T.a_Program dx []) ∧ (∃ (q : Addr) (us : List V), v0 = .ref q ∧ H q = some (.tup us)) ∧ (∃ (q : Addr) (us : List V), v1 = .ref q ∧ H q = some (.tup us)) ∧ ∀ H', SameBut x H H' → H' x = some (.ins T.a_Program dx (fsProgram v0 v1)) → Q .non H'
theorem ok_Program_init (T : Tx K mg) : FnOk P w K mg base CX0 1 T.f_Program_init T.d_Program_init ["self", "records", "helpers"] (spInitProgram T) := by
  refine T.F_Program_init.ok sc_Program_init (fun vs H Q E h => ?_) (fun cdv A outer s H vs Q E hr h => ?_)
  · obtain ⟨x, dx, v0, v1, rfl, _⟩ := h
    rfl
  · obtain ⟨x, dx, v0, v1, rfl, hx, ⟨q0, us0, rfl, hq0⟩, ⟨q1, us1, rfl, hq1⟩, q⟩ := h
    refine ⟨_, (pss_cons (ps_fld (pv 0) (pe_callTy (tuple_ofK (K := K) rfl) (by rfl) T.n_tuple PyProof.Rows.boot_tuple (pa_cons (pv 1) pa_nil)) rfl)
      (pss_one (ps_fld (pv 0) (pe_callTy (tuple_ofK (K := K) rfl) (by rfl) T.n_tuple PyProof.Rows.boot_tuple (pa_cons (pv 2) pa_nil)) rfl))), ?_⟩
    have ccl := T.cl_Program
    have na0 := T.na_Program_records
    have na1 := T.na_Program_helpers
    walk_at "sy"
    exact q _ (by walk_at "bt") (by walk_at "look")
theorem use_Program {T : Tx K mg} {H : Hp} {Q : VK} {E : XK} {v0 v1 : V} {q0 : Addr} {us0 : List V} (e0 : v0 = .ref q0) (hq0 : H q0 = some (.tup us0)) {q1 : Addr} {us1 : List V} (e1 : v1 = .ref q1) (hq1 : H q1 = some (.tup us1)) (h : ∀ (x dx : Addr) (H' : Hp), New x (.ins T.a_Program dx (fsProgram v0 v1)) H H' → Q (.ref x) H') : kMake T.a_Program (spInitProgram T) [] E [v0, v1] H Q := by
  intro x dx hx hd hne
  refine ⟨x, dx, v0, v1, rfl, upd_same, ⟨q0, us0, e0, by rw [upd_ne (ne_of_none hq0 hx), upd_ne (ne_of_none hq0 hd)]; exact hq0⟩, ⟨q1, us1, e1, by rw [upd_ne (ne_of_none hq1 hx), upd_ne (ne_of_none hq1 hd)]; exact hq1⟩, fun H' sb hx' => ⟨rfl, h x dx H' ⟨hx, hx', sb.made hx hd⟩⟩⟩
end
local macro_rules | `(tactic| walk_at "use") => `(tactic| ((with_reducible apply use_SetRow); intro x dx H' n))
local macro_rules | `(tactic| walk_at "use") => `(tactic| ((with_reducible apply use_AskRow); intro x dx H' n))
local macro_rules | `(tactic| walk_at "use") => `(tactic| ((with_reducible apply use_TellRow); intro x dx H' n))
local macro_rules | `(tactic| walk_at "use") => `(tactic| ((with_reducible apply use_IfRow); (· exact rfl); (· walk_at "look"); (· exact rfl); (· walk_at "look"); intro x dx H' n))
local macro_rules | `(tactic| walk_at "use") => `(tactic| ((with_reducible apply use_WhileRow); (· exact rfl); (· walk_at "look"); intro x dx H' n))
local macro_rules | `(tactic| walk_at "use") => `(tactic| ((with_reducible apply use_Helper); (· exact rfl); (· walk_at "look"); (· exact rfl); (· walk_at "look"); intro x dx H' n))
local macro_rules | `(tactic| walk_at "use") => `(tactic| ((with_reducible apply use_Program); (· exact rfl); (· walk_at "look"); (· exact rfl); (· walk_at "look"); intro x dx H' n))
/-! ### rows as objects; row_of -/
section
variable {P : Program} {w : World} {K : PySem.W.Frag} {mg : Str → Option Value} {base : Heap}
def atV : At → V
  | .num n => .int (n : Int)
  | .nam s => .str s
theorem atV_of {H : Hp} {a : At} {v : V} (h : IsD H (atD a) v) : v = atV a := by
  cases a with
  | num n => exact h
  | nam s => exact h
mutual
def RowAt (T : Tx K mg) (H : Hp) : Nr → V → Prop
  | .set x a g b, v => ∃ (p dx : Addr), v = .ref p ∧ H p = some (.ins T.a_SetRow dx (fsSetRow (.str x) (atV a) (.str g) (atV b)))
  | .ask x, v => ∃ (p dx : Addr), v = .ref p ∧ H p = some (.ins T.a_AskRow dx (fsAskRow (.str x)))
  | .tell a, v => ∃ (p dx : Addr), v = .ref p ∧ H p = some (.ins T.a_TellRow dx (fsTellRow (atV a)))
  | .iff a rs os, v => ∃ (p dx q1 q2 : Addr) (us1 us2 : List V), v = .ref p ∧ H p = some (.ins T.a_IfRow dx (fsIfRow (atV a) (.ref q1) (.ref q2))) ∧ H q1 = some (.tup us1) ∧ RowsAt T H rs us1 ∧ H q2 = some (.tup us2) ∧ RowsAt T H os us2
  | .whl a rs, v => ∃ (p dx q1 : Addr) (us1 : List V), v = .ref p ∧ H p = some (.ins T.a_WhileRow dx (fsWhileRow (atV a) (.ref q1))) ∧ H q1 = some (.tup us1) ∧ RowsAt T H rs us1
def RowsAt (T : Tx K mg) (H : Hp) : List Nr → List V → Prop
  | [], us => us = []
  | r :: rs, us => ∃ v u, us = v :: u ∧ RowAt T H r v ∧ RowsAt T H rs u
end
mutual
theorem RowAt.keep {T : Tx K mg} {H H' : Hp} (k : Keep H H') : ∀ {r : Nr} {v : V}, RowAt T H r v → RowAt T H' r v
  | .set _ _ _ _, _, ⟨p, dx, e, h⟩ => ⟨p, dx, e, k _ _ h trivial⟩
  | .ask _, _, ⟨p, dx, e, h⟩ => ⟨p, dx, e, k _ _ h trivial⟩
  | .tell _, _, ⟨p, dx, e, h⟩ => ⟨p, dx, e, k _ _ h trivial⟩
  | .iff _ _ _, _, ⟨p, dx, q1, q2, us1, us2, e, h, h1, g1, h2, g2⟩ => ⟨p, dx, q1, q2, us1, us2, e, k _ _ h trivial, k _ _ h1 trivial, RowsAt.keep k g1, k _ _ h2 trivial, RowsAt.keep k g2⟩
  | .whl _ _, _, ⟨p, dx, q1, us1, e, h, h1, g1⟩ => ⟨p, dx, q1, us1, e, k _ _ h trivial, k _ _ h1 trivial, RowsAt.keep k g1⟩
theorem RowsAt.keep {T : Tx K mg} {H H' : Hp} (k : Keep H H') : ∀ {rs : List Nr} {us : List V}, RowsAt T H rs us → RowsAt T H' rs us
  | [], _, h => h
  | _ :: _, _, ⟨v, u, e, h, g⟩ => ⟨v, u, e, RowAt.keep k h, RowsAt.keep k g⟩
end
theorem RowsAt.len {T : Tx K mg} {H : Hp} : ∀ {rs : List Nr} {us : List V}, RowsAt T H rs us → us.length = rs.length
  | [], _, h => by
    have h : _ = _ := h
    subst h
    rfl
  | _ :: rs, _, ⟨v, u, e, _, h2⟩ => by
    subst e
    simp [RowsAt.len h2]
theorem RowsAt.at {T : Tx K mg} {H : Hp} : ∀ {rs : List Nr} {us : List V} {i : Nat} {v : V}, RowsAt T H rs us → us[i]? = some v → ∃ r, rs[i]? = some r ∧ RowAt T H r v
  | [], _, i, v, h, e => by
    have h : _ = _ := h
    subst h
    simp at e
  | r :: rs, _, 0, v, ⟨w, u, e, h1, _⟩, h => by
    subst e
    simp at h
    subst h
    exact ⟨r, rfl, h1⟩
  | r :: rs, _, i + 1, v, ⟨w, u, e, _, h2⟩, h => by
    subst e
    obtain ⟨q, q1, q2⟩ := RowsAt.at (i := i) h2 (by simpa using h)
    exact ⟨q, by simpa using q1, q2⟩
theorem RowsAt.snoc {T : Tx K mg} {H : Hp} {r : Nr} {v : V} (h : RowAt T H r v) : ∀ {rs : List Nr} {us : List V}, RowsAt T H rs us → RowsAt T H (rs ++ [r]) (us ++ [v])
  | [], _, e => by
    have e : _ = _ := e
    subst e
    exact ⟨v, [], rfl, h, rfl⟩
  | _ :: _, _, ⟨w, u, e, h1, h2⟩ => by
    subst e
    exact ⟨w, _, rfl, h1, RowsAt.snoc h h2⟩
theorem take_snoc {α : Type} {l : List α} {i : Nat} {x : α} (h : l[i]? = some x) : l.take (i + 1) = l.take i ++ [x] := by
  rw [List.take_add_one, h]
  rfl
def isBlk : Nr → Bool
  | .iff _ _ _ => true
  | .whl _ _ => true
  | _ => false
def spRow (T : Tx K mg) (f : Nr → Bool) (d : Nat) : Sp := fun vs H Q _ => ∃ (v : V) (r : Nr), vs = [v] ∧ IsD H (toldN r) v ∧ f r = true ∧ okN d r ∧ ∀ (H' : Hp) (v' : V), Same H H' → RowAt T H' r v' → Q v' H'
def spRows (T : Tx K mg) (d : Nat) : Sp := fun vs H Q _ => ∃ (p : Addr) (us : List V) (rs : List Nr), vs = [.ref p] ∧ H p = some (.tup us) ∧ IsDs H (toldNs rs) us ∧ rs.length ≤ 1000 ∧ (∀ r ∈ rs, okN d r) ∧ ∀ (H' : Hp) (q : Addr) (ws : List V), Same H H' → H' q = some (.tup ws) → RowsAt T H' rs ws → Q (.ref q) H'
theorem told_at {rs : List Nr} {i : Nat} {d : Dt} (h : (toldNs rs)[i]? = some d) : ∃ r, rs[i]? = some r ∧ d = toldN r := by
  rw [toldNs_eq, List.getElem?_map] at h
  obtain ⟨r, h1, h2⟩ := Option.map_eq_some_iff.mp h
  exact ⟨r, h1, h2.symm⟩
theorem toldNs_len (rs : List Nr) : (toldNs rs).length = rs.length := by rw [toldNs_eq, List.length_map]
theorem ok_rows_ofI {k d : Nat} (T : Tx K mg) (ih : FnOk P w K mg base CX0 k T.f_row_of T.d_row_of ["told"] (spRow T (fun _ => true) d)) : FnOk P w K mg base CX0 (k + 1) T.f_rows_of T.d_rows_of ["some"] (spRows T d) := by
  refine T.F_rows_of.ok sc_rows_of (fun vs H Q E h => ?_) (fun cdv A outer s H vs Q E hr h => ?_)
  · obtain ⟨p, us, rs, rfl, _⟩ := h
    rfl
  · obtain ⟨p, us, rs, rfl, hp, hus, hl, hok, q⟩ := h
    refine ⟨_, (pss_one (ps_ret (pe_callTy (tuple_ofK (K := K) rfl) (by rfl) T.n_tuple PyProof.Rows.boot_tuple (pa_cons (pe_lc (own := [("told", 1)]) (g := gName 1) (tt := tYes) rfl sc_rows_of.nd (pi_tupK (K := K) rfl (pv 0)) (blkOk_by (own := [("told", 1)]) (N := ["some", "told"]) (sc := defScope s_rows_of) (by decide +kernel)) (fun _ _ _ _ _ => pg_name (i := 1) sc_rows_of.nd rfl (Or.inl rfl)) (fun _ _ _ _ _ => pts_nil) (fun _ _ _ _ _ => (pe_call ih (hr.mono (by omega)) rfl T.m_row_of T.F_row_of.kp T.B_row_of .nil pass0 (pa_cons (pv 1) pa_nil)))) pa_nil)))), ?_⟩
    have hul : us.length = rs.length := by rw [hus.len, toldNs_len]
    walk_at "sy"
    refine k_lcT us (fun D i Hy => Same H Hy ∧ ∃ ws, Hy D = some (.lst ws) ∧ RowsAt T Hy (rs.take i) ws ∧ ws.length = i) (fun D Hy n => ⟨n.same, [], n.at_, rfl, rfl⟩) (fun D i Hy _ h => SqT.of (h.1 _ _ hp)) ?_ ?_
    · rintro D hD i x Hy hx ⟨sy, ws, hDy, hws, hwl⟩
      obtain ⟨dd, hd1, hd2⟩ := hus.at hx
      obtain ⟨r, hr1, rfl⟩ := told_at hd1
      have hi := (List.getElem?_eq_some_iff.mp hx).1
      have hwl2 : ws.length ≤ 1000 := by omega
      walk_at "sy"
      refine ⟨x, r, rfl, hd2.keep (Keep.of sy), rfl, hok r (List.mem_of_getElem? hr1), fun H2 v2 s2 hv => ?_⟩
      have hD2 := s2 _ _ hDy
      walk_at "sy"
      rename_i H4 c4
      refine ⟨c4.sameOwn (sy.trans s2) hD, ws ++ [v2], c4.at_, ?_, by simp [hwl]⟩
      rw [take_snoc hr1]
      exact RowsAt.snoc (hv.keep c4.keepL) ((hws.keep (Keep.of s2)).keep c4.keepL)
    · rintro D hD Hy ⟨sy, ws, hDy, hws, hwl⟩
      rw [hul, List.take_length] at hws
      walk_at "sy"
      rename_i t ht H3 n3
      exact q _ _ _ (sy.trans n3.same) n3.at_ (hws.keep n3.keep)
theorem ok_block_ofI {k d : Nat} (T : Tx K mg) (rw : FnOk P w K mg base CX0 (k + 1) T.f_rows_of T.d_rows_of ["some"] (spRows T d)) : FnOk P w K mg base CX0 (k + 3) T.f_block_of T.d_block_of ["told"] (spRow T isBlk (d + 1)) := by
  refine T.F_block_of.ok sc_block_of (fun vs H Q E h => ?_) (fun cdv A outer s H vs Q E hr h => ?_)
  · obtain ⟨v, r, rfl, _⟩ := h
    rfl
  · obtain ⟨v, r, rfl, hv, hb, hok, q⟩ := h
    refine ⟨_, (pss_cons (ps_if (pt_cmpR op_eq (pe_ix (ix_tupK (K := K) rfl) (pv 0) pe_int (fun _ _ => rfl)) pe_str (nomark _))
        (pss_one (ps_ret (pe_make T.Mk_IfRow (ok_IfRow_init T) (hr.mono (by omega)) rfl T.c_IfRow T.B_IfRow_init .nil pass0 (pa_cons (pe_ix (ix_tupK (K := K) rfl) (pv 0) pe_int (fun _ _ => rfl)) (pa_cons (pe_call rw (hr.mono (by omega)) rfl T.m_rows_of T.F_rows_of.kp T.B_rows_of .nil pass0 (pa_cons (pe_ix (ix_tupK (K := K) rfl) (pv 0) pe_int (fun _ _ => rfl)) pa_nil)) (pa_cons (pe_call rw (hr.mono (by omega)) rfl T.m_rows_of T.F_rows_of.kp T.B_rows_of .nil pass0 (pa_cons (pe_ix (ix_tupK (K := K) rfl) (pv 0) pe_int (fun _ _ => rfl)) pa_nil)) pa_nil))))))
        pss_nil)
      (pss_one (ps_ret (pe_make T.Mk_WhileRow (ok_WhileRow_init T) (hr.mono (by omega)) rfl T.c_WhileRow T.B_WhileRow_init .nil pass0 (pa_cons (pe_ix (ix_tupK (K := K) rfl) (pv 0) pe_int (fun _ _ => rfl)) (pa_cons (pe_call rw (hr.mono (by omega)) rfl T.m_rows_of T.F_rows_of.kp T.B_rows_of .nil pass0 (pa_cons (pe_ix (ix_tupK (K := K) rfl) (pv 0) pe_int (fun _ _ => rfl)) pa_nil)) pa_nil)))))), ?_⟩
    cases r with
    | iff a rs os =>
      obtain ⟨p, vs, rfl, hp, hvs⟩ := hv
      obtain ⟨_, _, rfl, hw, hvs⟩ := hvs
      obtain rfl : _ = V.str "if" := hw
      obtain ⟨v0, _, rfl, h0, hvs⟩ := hvs
      obtain rfl := atV_of h0
      obtain ⟨v1, _, rfl, h1, hvs⟩ := hvs
      obtain ⟨q1, us1, rfl, hq1, hu1⟩ := h1
      obtain ⟨v2, _, rfl, h2, hvs⟩ := hvs
      obtain ⟨q2, us2, rfl, hq2, hu2⟩ := h2
      obtain rfl : _ = _ := hvs
      obtain ⟨_, l1, l2, k1, k2⟩ := hok
      walk_at "sy"
      refine ⟨q1, us1, rs, rfl, hq1, hu1, l1, k1, fun H2 p2 ws2 s2 hp2 hw2 => ?_⟩
      walk_at "sy"
      refine ⟨q2, us2, os, rfl, s2 _ _ hq2, hu2.keep (Keep.of s2), l2, k2, fun H3 p3 ws3 s3 hp3 hw3 => ?_⟩
      walk_at "sy"
      rename_i x dx H4 n4
      exact q _ _ (s2.trans (s3.trans n4.same)) ⟨x, dx, p2, p3, ws2, ws3, rfl, n4.at_, n4.get (s3 _ _ hp2), (hw2.keep (Keep.of s3)).keep n4.keep, n4.get hp3, hw3.keep n4.keep⟩
    | whl a rs =>
      obtain ⟨p, vs, rfl, hp, hvs⟩ := hv
      obtain ⟨_, _, rfl, hw, hvs⟩ := hvs
      obtain rfl : _ = V.str "while" := hw
      obtain ⟨v0, _, rfl, h0, hvs⟩ := hvs
      obtain rfl := atV_of h0
      obtain ⟨v1, _, rfl, h1, hvs⟩ := hvs
      obtain ⟨q1, us1, rfl, hq1, hu1⟩ := h1
      obtain rfl : _ = _ := hvs
      obtain ⟨_, l1, k1⟩ := hok
      walk_at "sy"
      refine ⟨q1, us1, rs, rfl, hq1, hu1, l1, k1, fun H2 p2 ws2 s2 hp2 hw2 => ?_⟩
      walk_at "sy"
      rename_i x dx H4 n4
      exact q _ _ (s2.trans n4.same) ⟨x, dx, p2, ws2, rfl, n4.at_, n4.get hp2, hw2.keep n4.keep⟩
    | _ => cases hb
theorem ok_row_ofI {k d : Nat} (T : Tx K mg) (bk : FnOk P w K mg base CX0 (k + 2) T.f_block_of T.d_block_of ["told"] (spRow T isBlk d)) : FnOk P w K mg base CX0 (k + 3) T.f_row_of T.d_row_of ["told"] (spRow T (fun _ => true) d) := by
  refine T.F_row_of.ok sc_row_of (fun vs H Q E h => ?_) (fun cdv A outer s H vs Q E hr h => ?_)
  · obtain ⟨v, r, rfl, _⟩ := h
    rfl
  · obtain ⟨v, r, rfl, hv, hb, hok, q⟩ := h
    refine ⟨_, (pss_cons (ps_set (i := 1) sc_row_of.nd rfl (Or.inl rfl) (pe_ix (ix_tupK (K := K) rfl) (pv 0) pe_int (fun _ _ => rfl)))
      (pss_cons (ps_if (pt_cmpR (in_seqK (K := K) rfl) (pv 1) (pe_tup (pa_cons pe_str (pa_cons pe_str pa_nil))) (by rfl))
        (pss_one (ps_ret (pe_call bk (hr.mono (by omega)) rfl T.m_block_of T.F_block_of.kp T.B_block_of .nil pass0 (pa_cons (pv 0) pa_nil))))
        pss_nil)
      (pss_cons (ps_if (pt_cmpR op_eq (pv 1) pe_str (nomark _))
        (pss_one (ps_ret (pe_make T.Mk_SetRow (ok_SetRow_init T) (hr.mono (by omega)) rfl T.c_SetRow T.B_SetRow_init .nil pass0 (pa_cons (pe_ix (ix_tupK (K := K) rfl) (pv 0) pe_int (fun _ _ => rfl)) (pa_cons (pe_ix (ix_tupK (K := K) rfl) (pv 0) pe_int (fun _ _ => rfl)) (pa_cons (pe_ix (ix_tupK (K := K) rfl) (pv 0) pe_int (fun _ _ => rfl)) (pa_cons (pe_ix (ix_tupK (K := K) rfl) (pv 0) pe_int (fun _ _ => rfl)) pa_nil)))))))
        pss_nil)
      (pss_cons (ps_if (pt_cmpR (in_seqK (K := K) rfl) (pv 1) (pe_tup (pa_cons pe_str (pa_cons pe_str pa_nil))) (by rfl))
        pss_never
        pss_nil)
      (pss_cons (ps_if (pt_cmpR op_eq (pv 1) pe_str (nomark _))
        pss_never
        pss_nil)
      (pss_cons (ps_if (pt_cmpR op_eq (pv 1) pe_str (nomark _))
        pss_never
        pss_nil)
      (pss_cons (ps_if (pt_cmpR op_eq (pv 1) pe_str (nomark _))
        pss_never
        pss_nil)
      (pss_cons (ps_if (pt_cmpR op_eq (pv 1) pe_str (nomark _))
        (pss_one (ps_ret (pe_make T.Mk_AskRow (ok_AskRow_init T) (hr.mono (by omega)) rfl T.c_AskRow T.B_AskRow_init .nil pass0 (pa_cons (pe_ix (ix_tupK (K := K) rfl) (pv 0) pe_int (fun _ _ => rfl)) pa_nil))))
        pss_nil)
      (pss_cons (ps_if (pt_cmpR op_eq (pv 1) pe_str (nomark _))
        (pss_one (ps_ret (pe_make T.Mk_TellRow (ok_TellRow_init T) (hr.mono (by omega)) rfl T.c_TellRow T.B_TellRow_init .nil pass0 (pa_cons (pe_ix (ix_tupK (K := K) rfl) (pv 0) pe_int (fun _ _ => rfl)) pa_nil))))
        pss_nil)
      (pss_one ps_never)))))))))), ?_⟩
    have hv0 := hv
    cases r with
    | set x a g b =>
      obtain ⟨p, vs, rfl, hp, hvs⟩ := hv
      obtain ⟨_, _, rfl, hw, hvs⟩ := hvs
      obtain rfl : _ = V.str "set" := hw
      obtain ⟨v0, _, rfl, h0, hvs⟩ := hvs
      obtain rfl : v0 = _ := h0
      obtain ⟨v1, _, rfl, h1, hvs⟩ := hvs
      obtain rfl := atV_of h1
      obtain ⟨v2, _, rfl, h2, hvs⟩ := hvs
      obtain rfl : v2 = _ := h2
      obtain ⟨v3, _, rfl, h3, hvs⟩ := hvs
      obtain rfl := atV_of h3
      obtain rfl : _ = _ := hvs
      walk_at "sy"
      exact q _ _ (by walk_at "sm") ⟨_, _, rfl, by walk_at "look"⟩
    | ask x =>
      obtain ⟨p, vs, rfl, hp, hvs⟩ := hv
      obtain ⟨_, _, rfl, hw, hvs⟩ := hvs
      obtain rfl : _ = V.str "ask" := hw
      obtain ⟨v0, _, rfl, h0, hvs⟩ := hvs
      obtain rfl : v0 = _ := h0
      obtain rfl : _ = _ := hvs
      walk_at "sy"
      exact q _ _ (by walk_at "sm") ⟨_, _, rfl, by walk_at "look"⟩
    | tell a =>
      obtain ⟨p, vs, rfl, hp, hvs⟩ := hv
      obtain ⟨_, _, rfl, hw, hvs⟩ := hvs
      obtain rfl : _ = V.str "tell" := hw
      obtain ⟨v0, _, rfl, h0, hvs⟩ := hvs
      obtain rfl := atV_of h0
      obtain rfl : _ = _ := hvs
      walk_at "sy"
      exact q _ _ (by walk_at "sm") ⟨_, _, rfl, by walk_at "look"⟩
    | iff a rs os =>
      obtain ⟨p, vs, rfl, hp, hvs⟩ := hv
      obtain ⟨_, _, rfl, hw, hvs⟩ := hvs
      obtain rfl : _ = V.str "if" := hw
      obtain ⟨v0, _, rfl, h0, hvs⟩ := hvs
      obtain ⟨v1, _, rfl, h1, hvs⟩ := hvs
      obtain ⟨v2, _, rfl, h2, hvs⟩ := hvs
      obtain rfl : _ = _ := hvs
      walk_at "sy"
      rename_i z H1 n1
      exact ⟨_, _, rfl, hv0.keep n1.keep, rfl, hok, fun H' v' s' hv' => q _ _ (n1.same.trans s') hv'⟩
    | whl a rs =>
      obtain ⟨p, vs, rfl, hp, hvs⟩ := hv
      obtain ⟨_, _, rfl, hw, hvs⟩ := hvs
      obtain rfl : _ = V.str "while" := hw
      obtain ⟨v0, _, rfl, h0, hvs⟩ := hvs
      obtain ⟨v1, _, rfl, h1, hvs⟩ := hvs
      obtain rfl : _ = _ := hvs
      walk_at "sy"
      rename_i z H1 n1
      exact ⟨_, _, rfl, hv0.keep n1.keep, rfl, hok, fun H' v' s' hv' => q _ _ (n1.same.trans s') hv'⟩
theorem ok_block_of (T : Tx K mg) : ∀ d : Nat, FnOk P w K mg base CX0 (4 * d + 2) T.f_block_of T.d_block_of ["told"] (spRow T isBlk d)
  | 0 => by
    have no : ∀ {r : Nr}, isBlk r = true → okN 0 r → False := fun {r} h g => by
      cases r with
      | iff _ _ _ => exact g
      | whl _ _ => exact g
      | _ => cases h
    exact T.F_block_of.ok sc_block_of (fun vs H Q E ⟨_, _, _, _, h, g, _⟩ => (no h g).elim) (fun cdv A outer s H vs Q E hr ⟨_, _, _, _, h, g, _⟩ => (no h g).elim)
  | d + 1 => ok_block_ofI (k := 4 * d + 3) T (ok_rows_ofI T (ok_row_ofI (k := 4 * d) T (ok_block_of T d)))
theorem ok_row_of (T : Tx K mg) (d : Nat) : FnOk P w K mg base CX0 (4 * d + 3) T.f_row_of T.d_row_of ["told"] (spRow T (fun _ => true) d) := ok_row_ofI (k := 4 * d) T (ok_block_of T d)
end
/-! ### words -/
section
variable {K : PySem.W.Frag} {σ : L2.St} {H : Hp} {Q : VK}
theorem w_dget2 {td ty tx : TE} (h : td σ H fun x H1 => ∃ a, x = .ref a ∧ L2.IsD H1 a ∧ ty σ H1 fun y H2 => tx σ H2 fun z H3 => ∃ o, DGet H3 a y o ∧ Q (o.getD z) H3) : tDGet2 td ty tx σ H Q := h
theorem w_dget2a {p : Addr} {l : List (L2.Key × V)} {B : Addr → Prop} (a : H p = some (.dK l)) (h : B p) : ∃ a, V.ref p = .ref a ∧ L2.IsD H a ∧ B a := ⟨p, rfl, .inl ⟨l, .inl a⟩, h⟩
theorem w_dget2S {p : Addr} {l : List (L2.Key × V)} {n : Str} {B : Option V → Prop} (a : H p = some (.dK l)) (h : B (valV l (Sum.inr n))) : ∃ o, DGet H p (.str n) o ∧ B o := ⟨_, DGet.k (k := Sum.inr n) a, h⟩
theorem w_xi {ta : TA} (h : ta σ H fun vs H1 => ∃ (a C : Addr) (ws : List V), vs = .ref a :: ws ∧ ws.length ≤ 1000 ∧ OexX K C ∧ H1 a = some (exo a C none) ∧ Q .non H1) : tXi K ta σ H Q := h
theorem w_ostX {f : Str} {to te : TE} {D : Ends} (h : te σ H fun y H1 => to σ H1 fun x H2 => ∃ a C : Addr, x = .ref a ∧ OexX K C ∧ PySem.W.findIn K (.ref C) f = some none ∧
  H2 a = some (exo a C none) ∧ ∀ dx, H2 dx = none → dx ≠ a → D.nx σ (upd (upd H2 dx (exd dx [(f, y)])) a (exo a C (some dx)))) : tOstX K f to te D σ H := h
theorem w_mkO {C : Addr} {sp : Sp} {ta : TA} {R : XK} (h : ta σ H fun vs H1 => vs.length ≤ 1000 ∧ ∀ a, H1 a = none → sp (.ref a :: (vs ++ [])) (upd H1 a (exo a C none))
  (fun v H2 => v = .non ∧ ∃ (d : Addr) (fs : List (Str × V)), H2 a = some (exo a C (some d)) ∧ H2 d = some (exd d fs) ∧ H1 d = none ∧ R (.ref C) (some d) (upd (del H2 a) d (.xd fs))) (fun _ _ _ => False)) : tMkO C sp [] ta σ H R := h
/-- the word when it has been raised with -/
theorem over_heap {T0 : Addr} {a dx : Addr} {fs : List (Str × V)} (ha : H a = none) (hd : upd H a (exo a T0 none) dx = none) (hne : dx ≠ a) : 
    (upd (upd (upd H a (exo a T0 none)) dx (exd dx fs)) a (exo a T0 (some dx))) a = some (exo a T0 (some dx)) ∧ (upd (upd (upd H a (exo a T0 none)) dx (exd dx fs)) a (exo a T0 (some dx))) dx = some (exd dx fs) ∧ H dx = none ∧
    Same H (upd (del (upd (upd (upd H a (exo a T0 none)) dx (exd dx fs)) a (exo a T0 (some dx))) a) dx (.xd fs)) := by
  have hd2 : H dx = none := by rw [upd_ne hne] at hd; exact hd
  refine ⟨upd_same, by rw [upd_ne hne, upd_same], hd2, fun b o e => ?_⟩
  have h1 : b ≠ a := ne_of_none e ha
  have h2 : b ≠ dx := ne_of_none e hd2
  rw [upd_ne h2, del_ne h1, upd_ne h1, upd_ne h2, upd_ne h1]
  exact e
end
local macro_rules | `(tactic| walk_at "sy1") => `(tactic| first | with_reducible refine w_drop ?_ | with_reducible refine w_for ?_ | with_reducible refine w_ifS ?_ | with_reducible refine w_if ?_ | with_reducible refine w_ret ?_ | with_reducible refine w_call ?_)
local macro_rules | `(tactic| walk_at "use") => `(tactic| first | ((with_reducible apply w_fldaug2); (· walk_at "look"); (· exact (by decide : 7 < 1000)); intro H' c) | with_reducible refine w_dget2 ?_ | ((with_reducible apply w_dget2a); (· walk_at "look")) | ((with_reducible apply w_dget2S); (· walk_at "look")))
/-! ### the teller's parts -/
def envV (e : En) : List (L2.Key × V) := e.map fun p => (Sum.inr p.1, V.int p.2)
theorem valV_envV (l : En) (k : Str) : valV (envV l) (Sum.inr k) = (lookE l k).map V.int := by
  induction l with
  | nil => rfl
  | cons p l ih =>
    show valV ((Sum.inr p.1, V.int p.2) :: envV l) (Sum.inr k) = (if p.1 = k then some p.2 else lookE l k).map V.int
    by_cases h : p.1 = k
    · rw [if_pos h]
      exact valV_pos (p := (Sum.inr p.1, V.int p.2)) (by rw [h])
    · rw [if_neg h, ← ih]
      exact valV_neg (p := (Sum.inr p.1, V.int p.2)) (fun e => h (Sum.inr.inj e))
theorem putK_envV (l : En) (k : Str) (v : Int) : putK (envV l) (Sum.inr k) (V.int v) = envV (putE l k v) := by
  have e : ((envV l).any fun kv => decide (kv.1 = Sum.inr k)) = (l.any fun p => decide (p.1 = k)) := by
    unfold envV
    rw [List.any_map]
    apply List.any_congr rfl
    intro p
    simp
  unfold putK putE
  rw [e]
  split
  · unfold envV
    rw [List.map_map, List.map_map]
    apply List.map_congr_left
    intro p _
    by_cases h : p.1 = k <;> simp [h]
  · unfold envV
    rw [List.map_append]
    rfl
theorem envV_len (l : En) : (envV l).length = l.length := by unfold envV; rw [List.length_map]
structure TeA where
  x : Addr
  dx : Addr
  h : Addr
  l : Addr
  w : Addr
  dw : Addr
  wb : Addr
  i : Addr
  n : Addr
  f : Addr
  hv : List (L2.Key × V)
  lv : List (L2.Key × V)
section
variable {P : Program} {w : World} {K : PySem.W.Frag} {mg : Str → Option Value} {base : Heap}
abbrev tFs (A : TeA) (s : S) : List (Str × V) := [("helpers", .ref A.h), ("layouts", .ref A.l), ("world", .ref A.w), ("inputs", .ref A.i), ("asked", .int (s.k : Int)), ("ticks", .int (s.t : Int)), ("numbers", .ref A.n)]
def ttop (T : Tx K mg) (ins : List Int) (A : TeA) (s : S) : Reg := [(A.n, .lst (s.told.map V.int)), (A.i, .lst (ins.map V.int)), (A.w, .ins T.a_World A.dw [("boxes", .ref A.wb)]), (A.wb, .lst []), (A.l, .dK A.lv), (A.h, .dK A.hv), (A.x, .ins T.a_Teller A.dx (tFs A s))]
def treg (T : Tx K mg) (ins : List Int) (A : TeA) (s : S) : Reg := (A.f, .dK (envV s.env)) :: ttop T ins A s
abbrev TAt (T : Tx K mg) (ins : List Int) (H0 H : Hp) (A : TeA) (s : S) : Prop := Own H0 H (treg T ins A s)
section
variable {T : Tx K mg} {ins : List Int} {H0 H H' : Hp} {A : TeA} {s s' : S}
theorem TAt.f (M : TAt T ins H0 H A s) : H A.f = some (.dK (envV s.env)) := M.get (by simp [treg])
theorem TAt.n (M : TAt T ins H0 H A s) : H A.n = some (.lst (s.told.map V.int)) := M.get (by simp [treg, ttop])
theorem TAt.i (M : TAt T ins H0 H A s) : H A.i = some (.lst (ins.map V.int)) := M.get (by simp [treg, ttop])
theorem TAt.x (M : TAt T ins H0 H A s) : H A.x = some (.ins T.a_Teller A.dx (tFs A s)) := M.get (by simp [treg, ttop])
theorem TAt.away (M : TAt T ins H0 H A s) {p : Addr} {o : HO} (h : H0 p = some o) : p ≠ A.x := fun e => by
  have := M.fresh A.x (by simp [keys, treg, ttop])
  rw [← e, h] at this
  cases this
theorem TAt.chgX (M : TAt T ins H0 H A s) {c : HO} (k : Chg A.x c (.ins T.a_Teller A.dx (tFs A s')) H H') (h1 : s'.env = s.env) (h2 : s'.told = s.told) : TAt T ins H0 H' A s' := by
  have := Own.at (l1 := [_, _, _, _, _, _, _]) (l2 := []) M k
  unfold TAt treg ttop
  rw [h1, h2]
  exact this
theorem TAt.chgF (M : TAt T ins H0 H A s) {c : HO} (k : Chg A.f c (.dK (envV s'.env)) H H') (h1 : s'.t = s.t) (h2 : s'.told = s.told) (h3 : s'.k = s.k) : TAt T ins H0 H' A s' := by
  have := Own.at (l1 := []) (l2 := ttop T ins A s) M k
  have e : ttop T ins A s' = ttop T ins A s := by
    unfold ttop tFs
    rw [h1, h2, h3]
  unfold TAt treg
  rw [e]
  exact this
theorem TAt.chgN (M : TAt T ins H0 H A s) {c : HO} (k : Chg A.n c (.lst (s'.told.map V.int)) H H') (h1 : s'.t = s.t) (h2 : s'.env = s.env) (h3 : s'.k = s.k) : TAt T ins H0 H' A s' := by
  have := Own.at (l1 := [_]) M k
  unfold TAt treg ttop tFs
  rw [h1, h2, h3]
  exact this
end
/-- Over(how) in the making -/
def spOver (T : Tx K mg) : Sp := fun vs H Q _ => ∃ (a : Addr) (how : Str), vs = [.ref a, .str how] ∧ H a = some (exo a T.a_Over none) ∧ ∀ dx, H dx = none → dx ≠ a → Q .non (upd (upd H dx (exd dx [("how", .str how)])) a (exo a T.a_Over (some dx)))
theorem ok_Over_init (T : Tx K mg) : FnOk P w K mg base CX0 1 T.f_Over_init T.d_Over_init ["self", "how"] (spOver T) := by
  refine T.F_Over_init.ok sc_Over_init (fun vs H Q E h => ?_) (fun cdv A outer s H vs Q E hr h => ?_)
  · obtain ⟨a, how, rfl, _⟩ := h
    rfl
  · obtain ⟨a, how, rfl, ha, q⟩ := h
    refine ⟨_, (pss_cons (ps_expr ((pe_xinit (by rfl) T.n_Exception (vXi K) (pa_cons (pv 0) (pa_cons (pv 1) pa_nil)))))
      (pss_one ((ps_ostX (pv 0) (pv 1))))), ?_⟩
    walk_at "sy"
    refine w_xi ?_
    walk_at "sy"
    refine ⟨a, T.a_Over, [.str how], rfl, by simp, T.ox_Over, ha, ?_⟩
    walk_at "sy"
    refine w_ostX ?_
    walk_at "sy"
    refine ⟨a, T.a_Over, rfl, T.ox_Over, T.xa_Over_how, ha, fun dx h1 h2 => ?_⟩
    walk_at "sy"
    exact q dx h1 h2
abbrev dryF : List (Str × V) := [("how", .str "dry")]
def spTicked (T : Tx K mg) : Sp := fun vs H Q E => ∃ (ins : List Int) (H0 : Hp) (A : TeA) (s : S), vs = [.ref A.x] ∧ TAt T ins H0 H A s ∧ (0 < s.t → ∀ H', TAt T ins H0 H' A s.tick → Q .non H') ∧ (s.t = 0 → ∀ H' dd, TAt T ins H0 H' A s → H' dd = some (.xd dryF) → E (.ref T.a_Over) (some dd) H')
theorem ok_Teller_ticked (T : Tx K mg) : FnOk P w K mg base (L2.CX P w) 3 T.f_Teller_ticked T.d_Teller_ticked ["self"] (spTicked T) := by
  refine T.F_Teller_ticked.okX sc_Teller_ticked (fun vs H Q E h => ?_) (fun cdv A_ outer s_ H vs Q E hr h => ?_)
  · obtain ⟨ins, H0, A, s, rfl, _⟩ := h
    rfl
  · obtain ⟨ins, H0, A, s, rfl, M, q1, q2⟩ := h
    refine ⟨_, (pss_cons (ps_if (pt_cmpR op_eq (fldK (K := K) rfl (pv 0) rfl) pe_int (nomark _))
        (pss_one (ps_raise rfl (takes_of rfl rfl rfl rfl) (pmk_X T.ox_Over T.iC_Over T.tI_Over (ok_Over_init T) (hr.mono (by omega)) T.B_Over_init pass0 rfl T.c_Over (pa_cons pe_str pa_nil))))
        pss_nil)
      (pss_one (ps_fldaug (pv 0) pe_int in_sub))), ?_⟩
    have c1 := T.cl_Teller
    have c2 := T.na_Teller_ticks
    have hx := M.x
    walk_at "sy"
    by_cases e : s.t = 0
    · refine iteDT (by omega) ?_
      walk_at "sy"
      refine w_mkO ?_
      walk_at "sy"
      refine ⟨by simp, fun a ha => ⟨a, "dry", rfl, upd_same, fun dx h1 h2 => ?_⟩⟩
      obtain ⟨g1, g2, g3, g4⟩ := over_heap (T0 := T.a_Over) (fs := dryF) ha h1 h2
      exact ⟨rfl, dx, dryF, g1, g2, g3, q2 e _ _ (M.step g4) upd_same⟩
    · refine iteDF (by omega) ?_
      walk_at "sy"
      rename_i H' c
      have e2 : (s.t : Int) - 1 = ((s.t - 1 : Nat) : Int) := by omega
      rw [e2] at c
      exact q1 (by omega) _ (M.chgX (s' := s.tick) c rfl rfl)
def spWorth (T : Tx K mg) : Sp := fun vs H Q _ => ∃ (x f : Addr) (a : At) (s : S), vs = [.ref x, .ref f, atV a] ∧ H f = some (.dK (envV s.env)) ∧ Q (.int (val s a)) H
theorem ok_Teller_worth (T : Tx K mg) : FnOk P w K mg base CX0 1 T.f_Teller_worth T.d_Teller_worth ["self", "frame", "atom"] (spWorth T) := by
  refine T.F_Teller_worth.ok sc_Teller_worth (fun vs H Q E h => ?_) (fun cdv A_ outer s_ H vs Q E hr h => ?_)
  · obtain ⟨x, f, a, s, rfl, _⟩ := h
    rfl
  · obtain ⟨x, f, a, s, rfl, hf, q⟩ := h
    have hu := hu_of hr
    refine ⟨_, (pss_cons (ps_if (pt_val (pe_callB (isiK (K := K) rfl) (by rfl) T.n_isinstance PyProof.Rows.boot_isinstance (pa_cons (pv 2) (pa_cons (pe_bltn (v := .ty "int") (by rfl) T.n_int PyProof.Rows.boot_int rfl) pa_nil))))
        (pss_one (ps_ret (pv 2)))
        pss_nil)
      (pss_one (ps_ret (pe_dget2 hu (pv 1) (pv 2) pe_int ⟨rfl, rfl, rfl, rfl⟩)))), ?_⟩
    cases a with
    | num n =>
      simp only [atV]
      walk_at "sy"
      exact q
    | nam z =>
      simp only [atV]
      walk_at "sy"
      have q2 : Q (((lookE s.env z).map V.int).getD (.int 0)) H := by
        have : ((lookE s.env z).map V.int).getD (.int 0) = V.int (val s (.nam z)) := by
          show _ = V.int ((lookE s.env z).getD 0)
          cases lookE s.env z <;> rfl
        rw [this]
        exact q
      rw [← valV_envV] at q2
      exact q2
def spReck : Sp := fun vs H Q _ => ∃ (one other : Int) (g : Str), vs = [.int one, .str g, .int other] ∧ 0 ≤ one ∧ one < PRM ∧ 0 ≤ other ∧ other < PRM ∧ Q (.int (reck one g other)) H
theorem ok_reckoned (T : Tx K mg) : FnOk P w K mg base CX0 1 T.f_reckoned T.d_reckoned ["one", "sign", "other"] spReck := by
  refine T.F_reckoned.ok sc_reckoned (fun vs H Q E h => ?_) (fun cdv A_ outer s_ H vs Q E hr h => ?_)
  · obtain ⟨one, other, g, rfl, _⟩ := h
    rfl
  · obtain ⟨one, other, g, rfl, h1, h2, h3, h4, q⟩ := h
    refine ⟨_, (pss_cons (ps_if (pt_cmpR op_eq (pv 1) pe_str (nomark _))
        (pss_one (ps_ret (pe_op op_mod (pe_op op_add (pv 0) (pv 2)) (pe_globI rfl T.m_PRIME))))
        pss_nil)
      (pss_cons (ps_if (pt_cmpR op_eq (pv 1) pe_str (nomark _))
        (pss_one (ps_ret (pe_op op_mod (pe_op op_sub (pv 0) (pv 2)) (pe_globI rfl T.m_PRIME))))
        pss_nil)
      (pss_cons (ps_if (pt_cmpR op_eq (pv 1) pe_str (nomark _))
        (pss_one (ps_ret (pe_op op_mod (pe_op op_mul (pv 0) (pv 2)) (pe_globI rfl T.m_PRIME))))
        pss_nil)
      (pss_cons (ps_if (pt_cmpR op_eq (pv 1) pe_str (nomark _))
        (pss_one (ps_ret (pe_callTy call_int1 (by rfl) T.n_int PyProof.Rows.boot_int (pa_cons (pe_cmpR op_lt (pv 0) (pv 2) (nomark _)) pa_nil))))
        pss_nil)
      (pss_cons (ps_if (pt_cmpR op_eq (pv 1) pe_str (nomark _))
        (pss_one (ps_ret (pe_callTy call_int1 (by rfl) T.n_int PyProof.Rows.boot_int (pa_cons (pe_cmpR op_eq (pv 0) (pv 2) (nomark _)) pa_nil))))
        pss_nil)
      (pss_one (ps_ret (pv 0)))))))), ?_⟩
    unfold reck at q
    have h2' : one < 1000003 := h2
    have h4' : other < 1000003 := h4
    walk_at "sy"
    by_cases e1 : g = Str.ofString "+"
    · rw [if_pos e1] at q
      refine iteDT e1 ?_
      walk_at "sy"
      exact q
    rw [if_neg e1] at q
    refine iteDF e1 ?_
    walk_at "sy"
    by_cases e2 : g = Str.ofString "-"
    · rw [if_pos e2] at q
      refine iteDT e2 ?_
      walk_at "sy"
      exact q
    rw [if_neg e2] at q
    refine iteDF e2 ?_
    walk_at "sy"
    by_cases e3 : g = Str.ofString "*"
    · rw [if_pos e3] at q
      refine iteDT e3 ?_
      walk_at "sy"
      exact q
    rw [if_neg e3] at q
    refine iteDF e3 ?_
    walk_at "sy"
    by_cases e4 : g = Str.ofString "<"
    · rw [if_pos e4] at q
      refine iteDT e4 ?_
      walk_at "sy"
      simpa using q
    rw [if_neg e4] at q
    refine iteDF e4 ?_
    walk_at "sy"
    by_cases e5 : g = Str.ofString "="
    · rw [if_pos e5] at q
      refine iteDT e5 ?_
      walk_at "sy"
      simpa using q
    rw [if_neg e5] at q
    refine iteDF e5 ?_
    walk_at "sy"
    exact q
end
/-! ### rows done, one behind the other -/
section
variable {P : Program} {w : World} {K : PySem.W.Frag} {mg : Str → Option Value} {base : Heap}
theorem kitT {c u : Value} {us : List Value} (h : PySem.W.kitOne K c u = some true) : PySem.W.kitAny K c (u :: us) = some true := by
  unfold PySem.W.kitAny
  rw [h]
theorem kitF {c u : Value} {us : List Value} {b : Bool} (h : PySem.W.kitOne K c u = some false) (g : PySem.W.kitAny K c us = some b) : PySem.W.kitAny K c (u :: us) = some b := by
  unfold PySem.W.kitAny
  rw [h]
  exact g
theorem kitN {c : Value} : PySem.W.kitAny K c [] = some false := rfl
theorem clsP : ∀ cs : List Addr, Paired ClsV (cs.map V.ref) (cs.map Value.ref)
  | [] => .nil
  | c :: cs => .cons (.own c) (clsP cs)
theorem w_isiOT {H : Hp} {Q : VK} {p C dx tp : Addr} {fs : List (Str × V)} (cs : List Addr) {b : Bool} (i : H p = some (.ins C dx fs)) (ht : H tp = some (.tup (cs.map V.ref))) (cl : Cls K C) {is : List Addr} {r : Addr} {j : Nat} (I : IsiAt K is r j C)
    (k : PySem.W.kitAny K (.ref C) (cs.map Value.ref) = some b) (h : Q (.bl b) H) : rIsiT K [.ref p, .ref tp] H Q :=
  ⟨.ref p, tp, cs.map V.ref, .ref C, cs.map Value.ref, b, rfl, ht, clsP cs, .base (.ins i cl I.ha I.hn I.htk I.hm), k, h⟩
/-- what comes of rows -/
def kO (T : Tx K mg) (ins : List Int) (H0 : Hp) (A : TeA) (rel : S × Bool → Prop) (Q : VK) (E : XK) : Prop :=
  (∀ s' H', rel (s', false) → TAt T ins H0 H' A s' → Q .non H') ∧ ∀ s' H' dd, rel (s', true) → TAt T ins H0 H' A s' → H' dd = some (.xd dryF) → E (.ref T.a_Over) (some dd) H'
def spNum (T : Tx K mg) : Sp := fun vs H Q _ => ∃ (ins : List Int) (H0 : Hp) (A : TeA) (s : S) (rv : V) (r : Nr) (d b : Nat), vs = [.ref A.x, .ref A.f, rv] ∧ TAt T ins H0 H A s ∧ RowAt T H0 r rv ∧ isNum r = true ∧ okN d r ∧ b ≤ 999 ∧ SOk b s ∧ ∀ H', TAt T ins H0 H' A (numR ins r s) → Q .non H'
theorem ok_Teller_numbered (T : Tx K mg) : FnOk P w K mg base CX0 3 T.f_Teller_numbered T.d_Teller_numbered ["self", "frame", "row"] (spNum T) := by
  refine T.F_Teller_numbered.ok sc_Teller_numbered (fun vs H Q E h => ?_) (fun cdv A_ outer s_ H vs Q E hr h => ?_)
  · obtain ⟨ins, H0, A, s, rv, r, d, b, rfl, _⟩ := h
    rfl
  · obtain ⟨ins, H0, A, s, rv, r, d, b, rfl, M, hrow, hn, hok, hb, hs, q⟩ := h
    have hu := hu_of hr
    refine ⟨_, (pss_one (ps_if (pt_val (pe_callB (isiK (K := K) rfl) (by rfl) T.n_isinstance PyProof.Rows.boot_isinstance (pa_cons (pv 2) (pa_cons (pe_glob (v := .ref T.a_SetRow) rfl T.c_SetRow rfl) pa_nil))))
        (pss_cons (ps_set (i := 3) sc_Teller_numbered.nd rfl (Or.inl rfl) (pe_meth (pv 0) T.cl_Teller T.M_Teller_worth (ok_Teller_worth T) (hr.mono (by omega)) T.B_Teller_worth .nil pass0 (pa_cons (pv 1) (pa_cons (fldK (K := K) rfl (pv 2) rfl) pa_nil))))
        (pss_one (ps_dput hu (pv 1) (fldK (K := K) rfl (pv 2) rfl) (pe_call (ok_reckoned T) (hr.mono (by omega)) rfl T.m_reckoned T.F_reckoned.kp T.B_reckoned .nil pass0 (pa_cons (pv 3) (pa_cons (fldK (K := K) rfl (pv 2) rfl) (pa_cons (pe_meth (pv 0) T.cl_Teller T.M_Teller_worth (ok_Teller_worth T) (hr.mono (by omega)) T.B_Teller_worth .nil pass0 (pa_cons (pv 1) (pa_cons (fldK (K := K) rfl (pv 2) rfl) pa_nil))) pa_nil)))) rfl)))
        (pss_one (ps_if (pt_val (pe_callB (isiK (K := K) rfl) (by rfl) T.n_isinstance PyProof.Rows.boot_isinstance (pa_cons (pv 2) (pa_cons (pe_glob (v := .ref T.a_AskRow) rfl T.c_AskRow rfl) pa_nil))))
          (pss_cons (ps_set (i := 4) sc_Teller_numbered.nd rfl (Or.inl rfl) pe_int)
          (pss_cons (ps_if (pt_cmpR op_lt (fldK (K := K) rfl (pv 0) rfl) (pe_callB (len_seqK (K := K) rfl) (by rfl) T.n_len PySem.boot_len (pa_cons (fldK (K := K) rfl (pv 0) rfl) pa_nil)) (nomark _))
            (pss_one (ps_set (i := 4) sc_Teller_numbered.nd rfl (Or.inl rfl) (pe_op op_mod (pe_ix (ix_listK (K := K) rfl) (fldK (K := K) rfl (pv 0) rfl) (fldK (K := K) rfl (pv 0) rfl) (fun _ _ => rfl)) (pe_globI rfl T.m_PRIME))))
            pss_nil)
          (pss_cons (ps_fldaug (pv 0) pe_int in_add)
          (pss_one (ps_dput hu (pv 1) (fldK (K := K) rfl (pv 2) rfl) (pv 4) rfl)))))
          (pss_one (ps_expr (pe_bm PySem.F.plainAttrs_list PySem.F.slot_list_append PySem.F.type_list_append mt_append (fldK (K := K) rfl (pv 0) rfl) (pa_cons (pe_meth (pv 0) T.cl_Teller T.M_Teller_worth (ok_Teller_worth T) (hr.mono (by omega)) T.B_Teller_worth .nil pass0 (pa_cons (pv 1) (pa_cons (fldK (K := K) rfl (pv 2) rfl) pa_nil))) pa_nil)))))))), ?_⟩
    have ct := T.cl_Teller
    have ct1 := T.na_Teller_inputs
    have ct2 := T.na_Teller_asked
    have ct3 := T.na_Teller_numbers
    have hx := M.x
    have hf := M.f
    have hi := M.i
    have hnn := M.n
    have hel : (envV s.env).length ≤ 1000 := by rw [envV_len]; have := hs.e; omega
    have htl : s.told.length ≤ 1000 := by have := hs.a; omega
    cases r with
    | set x a g c =>
      obtain ⟨p, dx, rfl, hp⟩ := hrow
      have hp := M.same _ _ hp
      have ccr := T.cl_SetRow
      have isa := isi_at T.isi 0 (c := T.a_SetRow) rfl
      have i1 := isa.ha
      have i2 := isa.hn
      have i3 := isa.htk
      have i4 := isa.hm
      have na0 := T.na_SetRow_name
      have na1 := T.na_SetRow_one
      have na2 := T.na_SetRow_sign
      have na3 := T.na_SetRow_other
      have ha : atOk a ∧ atOk c := by cases d <;> exact ⟨hok.1, hok.2.2⟩
      have v1 := val_in hs ha.1
      have v2 := val_in hs ha.2
      walk_at "sy"
      refine ⟨A.x, A.f, a, s, rfl, hf, ?_⟩
      walk_at "sy"
      refine ⟨A.x, A.f, c, s, rfl, hf, ?_⟩
      walk_at "sy"
      refine ⟨_, _, _, rfl, v1.1, v1.2, v2.1, v2.2, ?_⟩
      walk_at "sy"
      rename_i H1 c1
      rw [putK_envV] at c1
      exact q _ (M.chgF (s' := numR ins (.set x a g c) s) c1 rfl rfl rfl)
    | ask x =>
      obtain ⟨p, dx, rfl, hp⟩ := hrow
      have hpx : p ≠ A.x := M.away hp
      have hp := M.same _ _ hp
      have ccr := T.cl_AskRow
      have isa := isi_at T.isi 1 (c := T.a_AskRow) rfl
      have i1 := isa.ha
      have i2 := isa.hn
      have i3 := isa.htk
      have i4 := isa.hm
      have hfx : A.f ≠ A.x := fun e => by
        rw [e, hx] at hf
        cases hf
      have na0 := T.na_AskRow_name
      walk_at "sy"
      have fin : ∀ (v : Int) (Hz H1 H2 : Hp), inp ins s.k = v → Chg A.x (.ins T.a_Teller A.dx (tFs A s)) (.ins T.a_Teller A.dx (putF "asked" (.int ((s.k : Int) + 1)) (tFs A s))) H H1 → Chg A.f (.dK (envV s.env)) (.dK (putK (envV s.env) (Sum.inr x) (.int v))) H1 H2 → Q .non H2 := fun v Hz H1 H2 e c1 c2 => by
        have e1 : (s.k : Int) + 1 = ((s.k + 1 : Nat) : Int) := rfl
        rw [e1] at c1
        have M1 : TAt T ins H0 H1 A { s with k := s.k + 1 } := M.chgX (s' := { s with k := s.k + 1 }) c1 rfl rfl
        rw [putK_envV, ← e] at c2
        exact q _ (M1.chgF (s' := numR ins (.ask x) s) c2 rfl rfl rfl)
      by_cases hk : s.k < ins.length
      · obtain ⟨v, hv⟩ : ∃ v, ins[s.k]? = some v := ⟨_, List.getElem?_eq_getElem hk⟩
        have ai := ints_at hv
        refine iteDT (by rw [List.length_map]; omega) ?_
        walk_at "sy"
        rename_i H1 c1 H2 c2
        exact fin _ H _ _ (by unfold inp; rw [hv]) c1 c2
      · refine iteDF (by rw [List.length_map]; omega) ?_
        walk_at "sy"
        rename_i H1 c1 H2 c2
        exact fin _ H _ _ (by unfold inp; rw [List.getElem?_eq_none (by omega)]) c1 c2
    | tell a =>
      obtain ⟨p, dx, rfl, hp⟩ := hrow
      have hp := M.same _ _ hp
      have ccr := T.cl_TellRow
      have isa := isi_at T.isi 2 (c := T.a_TellRow) rfl
      have i1 := isa.ha
      have i2 := isa.hn
      have i3 := isa.htk
      have i4 := isa.hm
      have na0 := T.na_TellRow_atom
      walk_at "sy"
      refine ⟨A.x, A.f, a, s, rfl, hf, ?_⟩
      walk_at "sy"
      rename_i H1 c1
      have e : s.told.map V.int ++ [V.int (val s a)] = (s.told ++ [val s a]).map V.int := by rw [List.map_append]; rfl
      rw [e] at c1
      exact q _ (M.chgN (s' := numR ins (.tell a) s) c1 rfl rfl rfl)
    | iff a rs os => cases hn
    | whl a rs => cases hn
def spBlkd (T : Tx K mg) (f : Nr → Bool) (d : Nat) : Sp := fun vs H Q E => ∃ (ins : List Int) (H0 : Hp) (A : TeA) (s : S) (rv : V) (r : Nr) (b : Nat), vs = [.ref A.x, .ref A.f, rv] ∧ TAt T ins H0 H A s ∧ RowAt T H0 r rv ∧ f r = true ∧ okN d r ∧ b ≤ 999 ∧ SOk b s ∧ kO T ins H0 A (Do ins r s) Q E
def spWent (T : Tx K mg) (d : Nat) : Sp := fun vs H Q E => ∃ (ins : List Int) (H0 : Hp) (A : TeA) (s : S) (p : Addr) (us : List V) (rs : List Nr) (b : Nat), vs = [.ref A.x, .ref A.f, .ref p] ∧ TAt T ins H0 H A s ∧ H0 p = some (.tup us) ∧ RowsAt T H0 rs us ∧ (∀ r ∈ rs, okN d r) ∧ b ≤ 1000 ∧ SOk b s ∧ kO T ins H0 A (Go ins rs s) Q E
theorem ok_Teller_doneI {k d : Nat} (T : Tx K mg) (bl : FnOk P w K mg base (L2.CX P w) (k + 3) T.f_Teller_blocked T.d_Teller_blocked ["self", "frame", "row"] (spBlkd T isBlk d)) : FnOk P w K mg base (L2.CX P w) (k + 4) T.f_Teller_done T.d_Teller_done ["self", "frame", "row"] (spBlkd T (fun _ => true) d) := by
  refine T.F_Teller_done.okX sc_Teller_done (fun vs H Q E h => ?_) (fun cdv A_ outer s_ H vs Q E hr h => ?_)
  · obtain ⟨ins, H0, A, s, rv, r, b, rfl, _⟩ := h
    rfl
  · obtain ⟨ins, H0, A, s, rv, r, b, rfl, M, hrow, _, hok, hb, hs, q⟩ := h
    have hu := hu_of hr
    refine ⟨_, (pss_one (ps_if (pt_val (pe_callB call_isiT (by rfl) T.n_isinstance PyProof.Rows.boot_isinstance (pa_cons (pv 2) (pa_cons (pe_tup (pa_cons (pe_glob (v := .ref T.a_IfRow) rfl T.c_IfRow rfl) (pa_cons (pe_glob (v := .ref T.a_WhileRow) rfl T.c_WhileRow rfl) pa_nil))) pa_nil))))
        (pss_one (ps_expr (pe_meth (pv 0) T.cl_Teller T.M_Teller_blocked bl (hr.mono (by omega)) T.B_Teller_blocked .nil (passes_call (takes_of rfl rfl rfl rfl) (fun _ _ _ _ h => h)) (pa_cons (pv 1) (pa_cons (pv 2) pa_nil)))))
        (pss_one (ps_if (pt_val (pe_callB call_isiT (by rfl) T.n_isinstance PyProof.Rows.boot_isinstance (pa_cons (pv 2) (pa_cons (pe_tup (pa_cons (pe_glob (v := .ref T.a_SetRow) rfl T.c_SetRow rfl) (pa_cons (pe_glob (v := .ref T.a_AskRow) rfl T.c_AskRow rfl) (pa_cons (pe_glob (v := .ref T.a_TellRow) rfl T.c_TellRow rfl) pa_nil)))) pa_nil))))
          (pss_one (ps_expr (pe_meth (pv 0) T.cl_Teller T.M_Teller_numbered (ok_Teller_numbered T) (hr.mono (by omega)) T.B_Teller_numbered .nil pass0 (pa_cons (pv 1) (pa_cons (pv 2) pa_nil)))))
          pss_never)))), ?_⟩
    have ct := T.cl_Teller
    have hx := M.x
    obtain ⟨p, dx, C, fs, j, rfl, hp, ccr, isa, hj⟩ : ∃ (p dx C : Addr) (fs : List (Str × V)) (j : Nat), rv = .ref p ∧ H0 p = some (.ins C dx fs) ∧ Cls K C ∧ IsiAt K [T.a_SetRow, T.a_AskRow, T.a_TellRow, T.a_IfRow, T.a_WhileRow] T.a_Row j C ∧ j < 5 ∧ (j < 3 ↔ isNum r = true) := by
      cases r with
      | set x a g c =>
        obtain ⟨p, dx, e, hp⟩ := hrow
        exact ⟨p, dx, _, _, 0, e, hp, T.cl_SetRow, isi_at T.isi 0 rfl, by decide, by simp [isNum]⟩
      | ask x =>
        obtain ⟨p, dx, e, hp⟩ := hrow
        exact ⟨p, dx, _, _, 1, e, hp, T.cl_AskRow, isi_at T.isi 1 rfl, by decide, by simp [isNum]⟩
      | tell a =>
        obtain ⟨p, dx, e, hp⟩ := hrow
        exact ⟨p, dx, _, _, 2, e, hp, T.cl_TellRow, isi_at T.isi 2 rfl, by decide, by simp [isNum]⟩
      | iff a rs os =>
        obtain ⟨p, dx, q1, q2, us1, us2, e, hp, _⟩ := hrow
        exact ⟨p, dx, _, _, 3, e, hp, T.cl_IfRow, isi_at T.isi 3 rfl, by decide, by simp [isNum]⟩
      | whl a rs =>
        obtain ⟨p, dx, q1, us1, e, hp, _⟩ := hrow
        exact ⟨p, dx, _, _, 4, e, hp, T.cl_WhileRow, isi_at T.isi 4 rfl, by decide, by simp [isNum]⟩
    have hp := M.same _ _ hp
    have k0 := isa.hk 0 _ rfl
    have k1 := isa.hk 1 _ rfl
    have k2 := isa.hk 2 _ rfl
    have k3 := isa.hk 3 _ rfl
    have k4 := isa.hk 4 _ rfl
    walk_at "sy"
    rename_i t1 H1 n1
    by_cases hn : isNum r = true
    · have hj3 := hj.2.mpr hn
      refine w_isiOT [T.a_IfRow, T.a_WhileRow] (n1.get hp) n1.at_ ccr isa (b := false) ?_ ?_
      · refine kitF (k3.trans ?_) (kitF (k4.trans ?_) kitN) <;> (congr 1; simp; omega)
      walk_at "sy"
      rename_i t2 H2 n2
      refine w_isiOT [T.a_SetRow, T.a_AskRow, T.a_TellRow] (n2.get (n1.get hp)) n2.at_ ccr isa (b := true) ?_ ?_
      · have : j = 0 ∨ j = 1 ∨ j = 2 := by omega
        rcases this with rfl | rfl | rfl
        · exact kitT k0
        · exact kitF k0 (kitT k1)
        · exact kitF k0 (kitF k1 (kitT k2))
      have M2 := (M.step n1.same).step n2.same
      have hx2 := TAt.x M2
      walk_at "sy"
      refine ⟨ins, H0, A, s, .ref p, r, d, b, rfl, M2, hrow, hn, hok, hb, hs, fun H' M' => ?_⟩
      walk_at "sy"
      exact q.1 _ _ (.num hn) M'
    · have hj3 : ¬ j < 3 := fun z => hn (hj.2.mp z)
      refine w_isiOT [T.a_IfRow, T.a_WhileRow] (n1.get hp) n1.at_ ccr isa (b := true) ?_ ?_
      · have : j = 3 ∨ j = 4 := by omega
        rcases this with rfl | rfl
        · exact kitT k3
        · exact kitF k3 (kitT k4)
      have M2 := M.step n1.same
      have hx2 := TAt.x M2
      walk_at "sy"
      refine ⟨ins, H0, A, s, .ref p, r, b, rfl, M2, hrow, ?_, hok, hb, hs, ?_, ?_⟩
      · cases r <;> first | rfl | exact absurd rfl hn
      · intro s' H' h M'
        walk_at "sy"
        exact q.1 _ _ h M'
      · exact q.2
end
theorem Go.ticks {ins : List Int} {rs : List Nr} {s : S} {o : S × Bool} (h : Go ins rs s o) : o.1.t ≤ s.t := by
  refine Go.rec (ins := ins) (motive_1 := fun rs s o _ => o.1.t ≤ s.t) (motive_2 := fun r s o _ => o.1.t ≤ s.t) ?_ ?_ ?_ ?_ ?_ ?_ ?_ ?_ ?_ ?_ h
  · exact fun {_} => Nat.le_refl _
  · exact fun _ => Nat.le_refl _
  · intro r rs s s' h1 h2 ih
    exact Nat.le_trans ih (Nat.sub_le _ _)
  · intro r rs s s' o h1 h2 h3 ih2 ih3
    exact Nat.le_trans ih3 (Nat.le_trans ih2 (Nat.sub_le _ _))
  · intro r s hr
    cases r <;> exact Nat.le_refl _
  · exact fun _ ih => ih
  · exact fun _ => Nat.le_refl _
  · exact fun _ _ ih => ih
  · exact fun _ _ _ ih => ih
  · intro a rs s s' o h1 h2 h3 h4 ih2 ih4
    exact Nat.le_trans ih4 (Nat.le_trans (Nat.sub_le _ _) ih2)
/-! ### rows, ifs and whiles -/
section
variable {P : Program} {w : World} {K : PySem.W.Frag} {mg : Str → Option Value} {base : Heap}
theorem drop_cons {α : Type} {l : List α} {i : Nat} {x : α} (h : l[i]? = some x) : l.drop i = x :: l.drop (i + 1) := by
  obtain ⟨hl, e⟩ := List.getElem?_eq_some_iff.mp h
  rw [← e]
  exact (List.getElem_cons_drop hl).symm
theorem ok_Teller_wentI {k d : Nat} (T : Tx K mg) (dn : FnOk P w K mg base (L2.CX P w) (k + 4) T.f_Teller_done T.d_Teller_done ["self", "frame", "row"] (spBlkd T (fun _ => true) d)) : FnOk P w K mg base (L2.CX P w) (k + 5) T.f_Teller_went T.d_Teller_went ["self", "frame", "rows"] (spWent T d) := by
  refine T.F_Teller_went.okX sc_Teller_went (fun vs H Q E h => ?_) (fun cdv A_ outer s_ H vs Q E hr h => ?_)
  · obtain ⟨ins, H0, A, s, p, us, rs, b, rfl, _⟩ := h
    rfl
  · obtain ⟨ins, H0, A, s, p, us, rs, b, rfl, M, hp0, hus, hok, hb, hs, q⟩ := h
    refine ⟨_, (pss_one (ps_for (passes_of rfl) rfl (pi_tupK (K := K) rfl (pv 2)) (pg_name (i := 3) sc_Teller_went.nd rfl (Or.inl rfl))
        (pss_cons (ps_expr (pe_meth0 (pv 0) T.cl_Teller T.M_Teller_ticked (ok_Teller_ticked T) (hr.mono (by omega)) T.B_Teller_ticked .nil (passes_call (takes_of rfl rfl rfl rfl) (fun _ _ _ _ h => h))))
        (pss_one (ps_expr (pe_meth (pv 0) T.cl_Teller T.M_Teller_done dn (hr.mono (by omega)) T.B_Teller_done .nil (passes_call (takes_of rfl rfl rfl rfl) (fun _ _ _ _ h => h)) (pa_cons (pv 1) (pa_cons (pv 3) pa_nil)))))))), ?_⟩
    have ct := T.cl_Teller
    have hp := M.same _ _ hp0
    have hul := hus.len
    walk_at "sy"
    refine k_forT us (fun i σ Hx => ∃ (s1 : S) (v : Option V), σ = [some (.ref A.x), some (.ref A.f), some (.ref p), v] ∧ TAt T ins H0 Hx A s1 ∧ SOk b s1 ∧ ∀ o, Go ins (rs.drop i) s1 o → Go ins rs s o) ⟨s, none, rfl, M, hs, fun o h => h⟩ (fun i σ Hx _ h => ?_) ?_ ?_
    · obtain ⟨s1, v, rfl, M1, _⟩ := h
      exact SqT.of (M1.same _ _ hp0)
    · rintro i x σ Hx hx ⟨s1, v, rfl, M1, hs1, hgo⟩
      obtain ⟨r, hr1, hrow⟩ := hus.at hx
      have ed := drop_cons hr1
      have hx1 := TAt.x M1
      walk_at "sy"
      refine ⟨ins, H0, A, s1, rfl, M1, fun ht H2 M2 => ?_, fun ht H2 dd M2 hdd => ?_⟩
      · have hx2 := TAt.x M2
        have hs2 := hs1.tick ht
        walk_at "sy"
        refine ⟨ins, H0, A, s1.tick, x, r, b - 1, rfl, M2, hrow, rfl, hok r (List.mem_of_getElem? hr1), by omega, hs2, fun s3 H3 h3 M3 => ?_, fun s3 H3 dd h3 M3 hdd => ?_⟩
        · walk_at "sy"
          have hs3 := Do.ok h3 hs2 (hok r (List.mem_of_getElem? hr1))
          rw [Nat.sub_add_cancel (by have := hs1.a; omega)] at hs3
          exact ⟨s3, _, rfl, M3, hs3, fun o h => hgo o (by rw [ed]; exact .next ht h3 h)⟩
        · exact q.2 s3 H3 dd (hgo _ (by rw [ed]; exact .stop ht h3)) M3 hdd
      · exact q.2 s1 H2 dd (hgo _ (by rw [ed]; exact .dry ht)) M2 hdd
    · rintro σ Hx ⟨s1, v, rfl, M1, hs1, hgo⟩
      rw [hul, List.drop_length] at hgo
      walk_at "sy"
      exact q.1 s1 Hx (hgo _ .nil) M1
theorem ok_Teller_blockedI {k d : Nat} (T : Tx K mg) (wt : FnOk P w K mg base (L2.CX P w) (k + 5) T.f_Teller_went T.d_Teller_went ["self", "frame", "rows"] (spWent T d)) : FnOk P w K mg base (L2.CX P w) (k + 6) T.f_Teller_blocked T.d_Teller_blocked ["self", "frame", "row"] (spBlkd T isBlk (d + 1)) := by
  refine T.F_Teller_blocked.okX sc_Teller_blocked (fun vs H Q E h => ?_) (fun cdv A_ outer s_ H vs Q E hr h => ?_)
  · obtain ⟨ins, H0, A, s, rv, r, b, rfl, _⟩ := h
    rfl
  · obtain ⟨ins, H0, A, s, rv, r, b, rfl, M, hrow, hbk, hok, hb, hs, q⟩ := h
    refine ⟨_, (pss_cons (ps_if (pt_val (pe_callB (isiK (K := K) rfl) (by rfl) T.n_isinstance PyProof.Rows.boot_isinstance (pa_cons (pv 2) (pa_cons (pe_glob (v := .ref T.a_IfRow) rfl T.c_IfRow rfl) pa_nil))))
        (pss_cons (ps_expr (pe_meth (pv 0) T.cl_Teller T.M_Teller_went wt (hr.mono (by omega)) T.B_Teller_went .nil (passes_call (takes_of rfl rfl rfl rfl) (fun _ _ _ _ h => h)) (pa_cons (pv 1) (pa_cons (pe_ix (ix_listK (K := K) rfl) (pe_lst (pa_cons (fldK (K := K) rfl (pv 2) rfl) (pa_cons (fldK (K := K) rfl (pv 2) rfl) pa_nil))) (pe_callTy call_int1 (by rfl) T.n_int PyProof.Rows.boot_int (pa_cons (pe_cmpR op_ne (pe_meth (pv 0) T.cl_Teller T.M_Teller_worth (ok_Teller_worth T) (hr.mono (by omega)) T.B_Teller_worth .nil pass0 (pa_cons (pv 1) (pa_cons (fldK (K := K) rfl (pv 2) rfl) pa_nil))) pe_int (nomark _)) pa_nil)) (fun _ _ => rfl)) pa_nil))))
        (pss_one ps_retN))
        pss_nil)
      (pss_one (ps_while (passes_of rfl) (pt_cmpR op_ne (pe_meth (pv 0) T.cl_Teller T.M_Teller_worth (ok_Teller_worth T) (hr.mono (by omega)) T.B_Teller_worth .nil pass0 (pa_cons (pv 1) (pa_cons (fldK (K := K) rfl (pv 2) rfl) pa_nil))) pe_int (nomark _))
        (pss_cons (ps_expr (pe_meth (pv 0) T.cl_Teller T.M_Teller_went wt (hr.mono (by omega)) T.B_Teller_went .nil (passes_call (takes_of rfl rfl rfl rfl) (fun _ _ _ _ h => h)) (pa_cons (pv 1) (pa_cons (fldK (K := K) rfl (pv 2) rfl) pa_nil))))
        (pss_one (ps_expr (pe_meth0 (pv 0) T.cl_Teller T.M_Teller_ticked (ok_Teller_ticked T) (hr.mono (by omega)) T.B_Teller_ticked .nil (passes_call (takes_of rfl rfl rfl rfl) (fun _ _ _ _ h => h))))))))), ?_⟩
    have ct := T.cl_Teller
    have hx := TAt.x M
    cases r with
    | iff a rs os =>
      obtain ⟨p, dx, q1, q2, us1, us2, rfl, hp0, hq1, hu1, hq2, hu2⟩ := hrow
      obtain ⟨ha, l1, l2, k1, k2⟩ := hok
      have hpx := M.away hp0
      have hp := M.same _ _ hp0
      have ccr := T.cl_IfRow
      have isa := isi_at T.isi 3 (c := T.a_IfRow) rfl
      have i1 := isa.ha
      have i2 := isa.hn
      have i3 := isa.htk
      have i4 := isa.hm
      have na0 := T.na_IfRow_atom
      have na1 := T.na_IfRow_rows
      have na2 := T.na_IfRow_others
      have hf := TAt.f M
      walk_at "sy"
      rename_i t H1 n1
      have hf1 := n1.get hf
      have M1 := M.step n1.same
      refine ⟨A.x, A.f, a, s, rfl, hf1, ?_⟩
      walk_at "sy"
      by_cases hv : val s a = 0
      · refine ⟨t, _, _, .ref q2, rfl, rfl, SqL.of n1.at_, by simp [hv]; rfl, ?_⟩
        walk_at "sy"
        refine ⟨ins, H0, A, s, q2, us2, os, b, rfl, M1, hq2, hu2, k2, by omega, hs, fun s' H' h M' => ?_, fun s' H' dd h M' hdd => ?_⟩
        · walk_at "sy"
          exact q.1 s' H' (.iff (by rw [if_pos hv]; exact h)) M'
        · exact q.2 s' H' dd (.iff (by rw [if_pos hv]; exact h)) M' hdd
      · refine ⟨t, _, _, .ref q1, rfl, rfl, SqL.of n1.at_, by simp [hv]; rfl, ?_⟩
        walk_at "sy"
        refine ⟨ins, H0, A, s, q1, us1, rs, b, rfl, M1, hq1, hu1, k1, by omega, hs, fun s' H' h M' => ?_, fun s' H' dd h M' hdd => ?_⟩
        · walk_at "sy"
          exact q.1 s' H' (.iff (by rw [if_neg hv]; exact h)) M'
        · exact q.2 s' H' dd (.iff (by rw [if_neg hv]; exact h)) M' hdd
    | whl a rs =>
      obtain ⟨p, dx, q1, us1, rfl, hp0, hq1, hu1⟩ := hrow
      obtain ⟨ha, l1, k1⟩ := hok
      have hpx := M.away hp0
      have hp := M.same _ _ hp0
      have ccr := T.cl_WhileRow
      have isa := isi_at T.isi 4 (c := T.a_WhileRow) rfl
      have i1 := isa.ha
      have i2 := isa.hn
      have i3 := isa.htk
      have i4 := isa.hm
      have na0 := T.na_WhileRow_atom
      have na1 := T.na_WhileRow_rows
      walk_at "sy"
      refine ⟨fun m σ Hx => ∃ s1, m = s1.t ∧ σ = [some (.ref A.x), some (.ref A.f), some (.ref p)] ∧ TAt T ins H0 Hx A s1 ∧ SOk b s1 ∧ ∀ o, Do ins (.whl a rs) s1 o → Do ins (.whl a rs) s o, ⟨_, s, rfl, rfl, M, hs, fun o h => h⟩, ?_⟩
      rintro m σ Hx ⟨s1, rfl, rfl, M1, hs1, hgo⟩
      have hx1 := TAt.x M1
      have hf1 := TAt.f M1
      have hp1 := M1.same _ _ hp0
      walk_at "sy"
      refine ⟨A.x, A.f, a, s1, rfl, hf1, ?_⟩
      walk_at "sy"
      by_cases hv : val s1 a = 0
      · refine iteNF hv ?_
        exact q.1 s1 Hx (hgo _ (.whl0 hv)) M1
      · refine iteNT hv ?_
        refine ⟨_, fun σ' H' w => w, ?_⟩
        walk_at "sy"
        refine ⟨ins, H0, A, s1, q1, us1, rs, b, rfl, M1, hq1, hu1, k1, by omega, hs1, fun s' H' h M' => ?_, fun s' H' dd h M' hdd => ?_⟩
        · have hs' := h.ok hs1 k1
          have hx' := TAt.x M'
          walk_at "sy"
          refine ⟨ins, H0, A, s', rfl, M', fun ht H2 M2 => ?_, fun ht H2 dd M2 hdd => ?_⟩
          · walk_at "sy"
            have hlt : s'.tick.t < s1.t := by
              have := h.ticks
              show s'.t - 1 < s1.t
              have : s'.t ≤ s1.t := this
              omega
            exact ⟨s'.tick.t, hlt, s'.tick, rfl, rfl, M2, (hs'.tick ht).mono (Nat.sub_le _ _), fun o g => hgo o (.whlN hv h ht g)⟩
          · exact q.2 s' H2 dd (hgo _ (.whlD hv h ht)) M2 hdd
        · exact q.2 s' H' dd (hgo _ (.whlS hv h)) M' hdd
    | _ => cases hbk
theorem ok_Teller_blocked (T : Tx K mg) : ∀ d : Nat, FnOk P w K mg base (L2.CX P w) (3 * d + 3) T.f_Teller_blocked T.d_Teller_blocked ["self", "frame", "row"] (spBlkd T isBlk d)
  | 0 => by
    have no : ∀ {r : Nr}, isBlk r = true → okN 0 r → False := fun {r} h g => by
      cases r with
      | iff _ _ _ => exact g
      | whl _ _ => exact g
      | _ => cases h
    exact T.F_Teller_blocked.okX sc_Teller_blocked (fun vs H Q E ⟨_, _, _, _, _, _, _, _, _, _, h, g, _⟩ => (no h g).elim) (fun cdv A outer s H vs Q E hr ⟨_, _, _, _, _, _, _, _, _, _, h, g, _⟩ => (no h g).elim)
  | d + 1 => ok_Teller_blockedI (k := 3 * d) T (ok_Teller_wentI (k := 3 * d) T (ok_Teller_doneI (k := 3 * d) T (ok_Teller_blocked T d)))
theorem ok_Teller_went (T : Tx K mg) (d : Nat) : FnOk P w K mg base (L2.CX P w) (3 * d + 5) T.f_Teller_went T.d_Teller_went ["self", "frame", "rows"] (spWent T d) := ok_Teller_wentI (k := 3 * d) T (ok_Teller_doneI (k := 3 * d) T (ok_Teller_blocked T d))
end
/-! ### the teller made, run -/
section
variable {P : Program} {w : World} {K : PySem.W.Frag} {mg : Str → Option Value} {base : Heap}
def spWInit (T : Tx K mg) : Sp := fun vs H Q _ => ∃ (x dx : Addr), vs = [.ref x] ∧ H x = some (.ins T.a_World dx []) ∧ ∀ H' l, H l = none → l ≠ x → Only [x] H H' → H' x = some (.ins T.a_World dx [("boxes", .ref l)]) → H' l = some (.lst []) → Q .non H'
theorem ok_World_init (T : Tx K mg) : FnOk P w K mg base CX0 1 T.f_World_init T.d_World_init ["self"] (spWInit T) := by
  refine T.F_World_init.ok sc_World_init (fun vs H Q E h => ?_) (fun cdv A outer s H vs Q E hr h => ?_)
  · obtain ⟨x, dx, rfl, _⟩ := h
    rfl
  · obtain ⟨x, dx, rfl, hx, q⟩ := h
    refine ⟨_, (pss_one (ps_fld (pv 0) (pe_lst pa_nil) rfl)), ?_⟩
    have c1 := T.cl_World
    have c2 := T.na_World_boxes
    walk_at "sy"
    rename_i l H1 n1 H2 k2
    have x1 : x ≠ l := (n1.ne hx).symm
    exact q H2 l n1.free x1.symm (((Only.refl [x] H).same n1.same).chg k2 (by simp)) k2.at_ (k2.get n1.at_ x1.symm)
theorem use_World {T : Tx K mg} {σ : L2.St} {H : Hp} {Q : VK} {E : XK} (h : ∀ (x dx l : Addr) (H' : Hp), Own H H' [(x, .ins T.a_World dx [("boxes", .ref l)]), (l, .lst [])] → Q (.ref x) H') : tMake T.a_World (spWInit T) [] E tNil σ H Q := by
  intro x dx hx hd hne
  refine ⟨x, dx, rfl, upd_same, fun H' l f1 n1 on a1 a2 => ⟨rfl, h x dx l H' ?_⟩⟩
  have hl : H l = none := by
    rw [upd_ne n1] at f1
    by_cases hz : l = dx
    · subst hz
      rw [upd_same] at f1
      cases f1
    · rw [upd_ne hz] at f1
      exact f1
  refine ⟨fun b o e => on b o (same_made hx hd b o e) (by simpa using ne_of_none e hx), fun e he => ?_, ?_, fun a ha => ?_⟩
  · simp only [List.mem_cons, List.not_mem_nil, or_false] at he
    rcases he with rfl | rfl
    · exact a1
    · exact a2
  · simp [keys, n1.symm]
  · simp [keys] at ha
    rcases ha with rfl | rfl
    · exact hx
    · exact hl
/-- a program of one helper, main -/
structure ProgAt (T : Tx K mg) (H : Hp) (v : Addr) (hl : Addr) (rs : List Nr) : Prop where
  pr : ∃ (dx rt ht : Addr), H v = some (.ins T.a_Program dx (fsProgram (.ref rt) (.ref ht))) ∧ H rt = some (.tup []) ∧ H ht = some (.tup [.ref hl])
  he : ∃ (dx rp : Addr) (pv : V) (us : List V), H hl = some (.ins T.a_Helper dx (fsHelper (.str "main") pv .non (.ref rp))) ∧ H rp = some (.tup us) ∧ RowsAt T H rs us
theorem ProgAt.keep {T : Tx K mg} {H H' : Hp} {v hl : Addr} {rs : List Nr} (k : Keep H H') (h : ProgAt T H v hl rs) : ProgAt T H' v hl rs := by
  obtain ⟨⟨dx, rt, ht, h1, h2, h3⟩, ⟨dy, rp, pv, us, g1, g2, g3⟩⟩ := h
  exact ⟨⟨dx, rt, ht, k _ _ h1 trivial, k _ _ h2 trivial, k _ _ h3 trivial⟩, ⟨dy, rp, pv, us, k _ _ g1 trivial, k _ _ g2 trivial, g3.keep k⟩⟩
def s0 (t : Nat) : S := ⟨t, 0, [], []⟩
def spTInit (T : Tx K mg) : Sp := fun vs H Q _ => ∃ (H0 : Hp) (x dx v hl ia : Addr) (rs : List Nr) (ins : List Int) (t : Nat), vs = [.ref x, .ref v, .ref ia, .int (t : Int)] ∧ Own H0 H [(x, .ins T.a_Teller dx [])] ∧ ProgAt T H0 v hl rs ∧ H0 ia = some (.lst (ins.map V.int)) ∧ ins.length ≤ 1000 ∧
  ∀ H' A, A.x = x → Own H0 H' (ttop T ins A (s0 t)) → Q .non H'
theorem ok_Teller_init (T : Tx K mg) : FnOk P w K mg base CX0 3 T.f_Teller_init T.d_Teller_init ["self", "program", "inputs", "ticks"] (spTInit T) := by
  refine T.F_Teller_init.ok sc_Teller_init (fun vs H Q E h => ?_) (fun cdv A_ outer s_ H vs Q E hr h => ?_)
  · obtain ⟨H0, x, dx, v, hl, ia, rs, ins, t, rfl, _⟩ := h
    rfl
  · obtain ⟨H0, x, dx, v, hl, ia, rs, ins, t, rfl, a, hp, hia0, hil, q⟩ := h
    have hu := hu_of hr
    refine ⟨_, (pss_cons (ps_fld (pv 0) pe_dnewK rfl)
      (pss_cons (ps_for PassesOwn.never rfl (pi_tupK (K := K) rfl (fldK (K := K) rfl (pv 1) rfl)) (pg_name (i := 4) sc_Teller_init.nd rfl (Or.inl rfl))
        (pss_one (ps_dput hu (fldK (K := K) rfl (pv 0) rfl) (fldK (K := K) rfl (pv 4) rfl) (pv 4) rfl)))
      (pss_cons (ps_fld (pv 0) pe_dnewK rfl)
      (pss_cons (ps_for PassesOwn.never rfl (pi_tupK (K := K) rfl (fldK (K := K) rfl (pv 1) rfl)) (pg_name (i := 5) sc_Teller_init.nd rfl (Or.inl rfl))
        (pss_one (ps_dput hu (fldK (K := K) rfl (pv 0) rfl) (fldK (K := K) rfl (pv 5) rfl) (fldK (K := K) rfl (pv 5) rfl) rfl)))
      (pss_cons (ps_fld (pv 0) (pe_make0 T.Mk_World (ok_World_init T) (hr.mono (by omega)) rfl T.c_World T.B_World_init .nil pass0) rfl)
      (pss_cons (ps_fld (pv 0) (pe_callTy (list_ofK (K := K) rfl) (by rfl) T.n_list PyProof.Rows.boot_list (pa_cons (pv 2) pa_nil)) rfl)
      (pss_cons (ps_fld (pv 0) pe_int rfl)
      (pss_cons (ps_fld (pv 0) (pv 3) rfl)
      (pss_one (ps_fld (pv 0) (pe_lst pa_nil) rfl)))))))))), ?_⟩
    have ct := T.cl_Teller
    have ct1 := T.na_Teller_helpers
    have ct2 := T.na_Teller_layouts
    have ct3 := T.na_Teller_world
    have ct4 := T.na_Teller_inputs
    have ct5 := T.na_Teller_asked
    have ct6 := T.na_Teller_ticks
    have ct7 := T.na_Teller_numbers
    have cp := T.cl_Program
    have cp1 := T.na_Program_records
    have cp2 := T.na_Program_helpers
    have ch := T.cl_Helper
    have ch1 := T.na_Helper_name
    obtain ⟨⟨dp, rt, ht, hv0, hrt0, hht0⟩, ⟨dh, rp, pv, us, hhl0, _⟩⟩ := id hp
    have hx := a.get (q := x) (u := .ins T.a_Teller dx []) (by simp)
    have hv := a.same _ _ hv0
    have hht := a.same _ _ hht0
    have away : ∀ {b : Addr} {o : HO}, H0 b = some o → b ≠ x := fun {b o} h e => by
      have := a.fresh x (by simp [keys])
      rw [← e, h] at this
      cases this
    have vx := away hv0
    walk_at "sy"
    rename_i h H1 n1 H2 c2
    have a := a.new n1
    have a := Own.at (l1 := [_]) (l2 := []) a c2
    refine k_forT [.ref hl] (fun i σ Hx => ∃ (z : Option V) (hv : List (L2.Key × V)), σ = [some (.ref x), some (.ref v), some (.ref ia), some (.int (t : Int)), z, none] ∧ hv.length ≤ i ∧ Own H0 Hx [(h, .dK hv), (x, .ins T.a_Teller dx [("helpers", .ref h)])]) ⟨none, [], rfl, Nat.le_refl _, a⟩ (fun i σ Hx _ g => ?_) ?_ ?_
    · obtain ⟨z, hv, _, _, a⟩ := g
      exact SqT.of (a.same _ _ hht0)
    · rintro i y σ Hx hy ⟨z, hv, rfl, hvl, a⟩
      have hi := (List.getElem?_eq_some_iff.mp hy).1
      obtain rfl : i = 0 := by simpa using hi
      cases hy
      obtain rfl : hv = [] := List.length_eq_zero_iff.mp (by omega)
      have hx1 := a.get (q := x) (u := .ins T.a_Teller dx [("helpers", .ref h)]) (by simp)
      have hh1 := a.get (q := h) (u := .dK []) (by simp)
      have hhl := a.same _ _ hhl0
      walk_at "sy"
      rename_i H3 c3
      exact ⟨_, _, rfl, by simp [putK], Own.at (l1 := []) (l2 := [_]) a c3⟩
    · rintro σ Hx ⟨z, hv, rfl, hvl, a⟩
      have hx1 := a.get (q := x) (u := .ins T.a_Teller dx [("helpers", .ref h)]) (by simp)
      have hv1 := a.same _ _ hv0
      have hrt := a.same _ _ hrt0
      walk_at "sy"
      rename_i l H3 n3 H4 c4
      have a := a.new n3
      have a := Own.at (l1 := [_, _]) (l2 := []) a c4
      refine k_forT [] (fun i σ' Hx' => σ' = [some (.ref x), some (.ref v), some (.ref ia), some (.int (t : Int)), z, none] ∧ Hx' = H4) ⟨rfl, rfl⟩ (fun i σ Hx _ g => ?_) (fun i y σ Hx hy => by simp at hy) ?_
      · obtain ⟨_, rfl⟩ := g
        exact SqT.of (a.same _ _ hrt0)
      · rintro σ Hy ⟨rfl, rfl⟩
        walk_at "sy"
        refine use_World (fun wx wdx wb H5 o5 => ?_)
        have a := a.join o5
        have hx5 := a.get (q := x) (u := .ins T.a_Teller dx [("helpers", .ref h), ("layouts", .ref l)]) (by simp; rfl)
        have hia5 := a.same _ _ hia0
        have iax := away hia0
        walk_at "sy"
        rename_i H6 c6 li z7 H7 n7 H8 c8 H9 c9 H10 c10 ln H11 n11 H12 c12
        have a := Own.at (l1 := [_, _, _, _]) (l2 := []) a c6
        have a := a.new n7
        have a := Own.at (l1 := [_, _, _, _, _]) (l2 := []) a c8
        have a := Own.at (l1 := [_, _, _, _, _]) (l2 := []) a c9
        have a := Own.at (l1 := [_, _, _, _, _]) (l2 := []) a c10
        have a := a.new n11
        have a := Own.at (l1 := [_, _, _, _, _, _]) (l2 := []) a c12
        exact q H12 ⟨x, dx, h, l, wx, wdx, wb, li, ln, x, hv, []⟩ rfl a
theorem use_Teller {T : Tx K mg} {H : Hp} {Q : VK} {E : XK} {v hl ia : Addr} {rs : List Nr} {ins : List Int} {t : Nat} (hp : ProgAt T H v hl rs) (h3 : H ia = some (.lst (ins.map V.int))) (h4 : ins.length ≤ 1000)
    (h : ∀ (H' : Hp) (A : TeA), Own H H' (ttop T ins A (s0 t)) → Q (.ref A.x) H') : kMake T.a_Teller (spTInit T) [] E [.ref v, .ref ia, .int (t : Int)] H Q := by
  intro x dx hx hd hne
  refine ⟨H, x, dx, v, hl, ia, rs, ins, t, rfl, ⟨same_made hx hd, fun e he => ?_, by simp [keys], fun a ha => ?_⟩, hp, h3, h4, fun H' A e M => ⟨rfl, e ▸ h H' A M⟩⟩
  · simp only [List.mem_cons, List.not_mem_nil, or_false] at he
    subst he
    exact upd_same
  · simp [keys] at ha
    subst ha
    exact hx
def spRan (T : Tx K mg) : Sp := fun vs H Q E => ∃ (ins : List Int) (H0 : Hp) (A : TeA) (s : S) (v hl : Addr) (rs : List Nr) (b : Nat), vs = [.ref A.x, .ref hl, .ref A.f] ∧ TAt T ins H0 H A s ∧ ProgAt T H0 v hl rs ∧ (∀ r ∈ rs, okN 2 r) ∧ b ≤ 1000 ∧ SOk b s ∧ kO T ins H0 A (Go ins rs s) Q E
theorem ok_Teller_ran (T : Tx K mg) : FnOk P w K mg base (L2.CX P w) 12 T.f_Teller_ran T.d_Teller_ran ["self", "helper", "frame"] (spRan T) := by
  refine T.F_Teller_ran.okX sc_Teller_ran (fun vs H Q E h => ?_) (fun cdv A_ outer s_ H vs Q E hr h => ?_)
  · obtain ⟨ins, H0, A, s, v, hl, rs, b, rfl, _⟩ := h
    rfl
  · obtain ⟨ins, H0, A, s, v, hl, rs, b, rfl, M, hp, hok, hb, hs, q⟩ := h
    have hu := hu_of hr
    refine ⟨_, (pss_cons (ps_expr (pe_meth (pv 0) T.cl_Teller T.M_Teller_went (ok_Teller_went T 2) (hr.mono (by omega)) T.B_Teller_went .nil (passes_call (takes_of rfl rfl rfl rfl) (fun _ _ _ _ h => h)) (pa_cons (pv 2) (pa_cons (fldK (K := K) rfl (pv 1) rfl) pa_nil))))
      (pss_cons (ps_if (pt_cmp (pc_isN (fldK (K := K) rfl (pv 1) rfl)))
        (pss_one (ps_ret pe_non))
        pss_nil)
      (pss_cons (ps_set (i := 3) sc_Teller_ran.nd rfl (Or.inl rfl) (pe_ix (ix_tupK (K := K) rfl) (fldK (K := K) rfl (pv 1) rfl) (pe_un un_neg pe_int) (fun _ _ => rfl)))
      (pss_cons (ps_if (pt_cmpR op_eq (fldK (K := K) rfl (pv 1) rfl) pe_str (nomark _))
        (pss_one (ps_ret (pe_meth (pv 0) T.cl_Teller T.M_Teller_worth (ok_Teller_worth T) (hr.mono (by omega)) T.B_Teller_worth .nil pass0 (pa_cons (pv 2) (pa_cons (fldK (K := K) rfl (pv 3) rfl) pa_nil)))))
        pss_nil)
      (pss_one (ps_ret (pe_dget1 hu (pv 2) (fldK (K := K) rfl (pv 3) rfl) ⟨rfl, rfl, rfl, rfl⟩))))))), ?_⟩
    have ct := T.cl_Teller
    have ch := T.cl_Helper
    have ch1 := T.na_Helper_rows
    have ch2 := T.na_Helper_gives
    obtain ⟨_, ⟨dh, rp, pv, us, hhl0, hrp0, hus⟩⟩ := id hp
    have hhl := M.same _ _ hhl0
    have hx := TAt.x M
    walk_at "sy"
    refine ⟨ins, H0, A, s, rp, us, rs, b, rfl, M, hrp0, hus, hok, hb, hs, fun s' H' h M' => ?_, fun s' H' dd h M' hdd => ?_⟩
    · have hhl2 := M'.same _ _ hhl0
      walk_at "sy"
      exact q.1 s' H' h M'
    · exact q.2 s' H' dd h M' hdd
def spRunOf (T : Tx K mg) : Sp := fun vs H Q _ => ∃ (v hl ia : Addr) (rs : List Nr) (ins : List Int) (t : Nat), vs = [.ref v, .ref ia, .int (t : Int)] ∧ ProgAt T H v hl rs ∧ H ia = some (.lst (ins.map V.int)) ∧ ins.length ≤ 1000 ∧ t ≤ 1000 ∧ (∀ r ∈ rs, okN 2 r) ∧
  ∀ H' p A s' (over : Bool), Go ins rs (s0 t) (s', over) → TAt T ins H H' A s' → H' p = some (.tup [.ref A.x, .str (if over = true then "dry" else "done")]) → Q (.ref p) H'
theorem ok_run_of (T : Tx K mg) : FnOk P w K mg base CX0 13 T.f_run_of T.d_run_of ["program", "inputs", "ticks"] (spRunOf T) := by
  refine T.F_run_of.ok sc_run_of (fun vs H Q E h => ?_) (fun cdv A_ outer s_ H vs Q E hr h => ?_)
  · obtain ⟨v, hl, ia, rs, ins, t, rfl, _⟩ := h
    rfl
  · obtain ⟨v, hl, ia, rs, ins, t, rfl, hp, hia, hil, ht, hok, q⟩ := h
    refine ⟨_, (pss_cons (ps_set (i := 3) sc_run_of.nd rfl (Or.inl rfl) (pe_make T.Mk_Teller (ok_Teller_init T) (hr.mono (by omega)) rfl T.c_Teller T.B_Teller_init .nil pass0 (pa_cons (pv 0) (pa_cons (pv 1) (pa_cons (pv 2) pa_nil)))))
      (pss_cons (ps_try_as (i := 4) rfl rfl sc_run_of.nd rfl rfl ⟨rfl, by decide, .inl T.c_Over⟩ takes0 (fun W pn xe tk _ => (pss_one (ps_expr (pe_methAt (pv 3) T.cl_Teller T.M_Teller_ran (ok_Teller_ran T) (hr.mono (by omega)) T.B_Teller_ran (fun σ => passAt tk σ) (pa_cons (pe_ix (ix_tupK (K := K) rfl) (fldK (K := K) rfl (pv 0) rfl) (pe_un un_neg pe_int) (fun _ _ => rfl)) (pa_cons pe_dnewK pa_nil)))))) (fun a oe cls d pn hz hf => (pss_one (ps_ret (pe_tup (pa_cons (pv 3) (pa_cons ((pe_xf T.xf_Over T.xa_Over_how hz hf (pv 4))) pa_nil)))))))
      (pss_one (ps_ret (pe_tup (pa_cons (pv 3) (pa_cons pe_str pa_nil))))))), ?_⟩
    have cp := T.cl_Program
    have cp2 := T.na_Program_helpers
    obtain ⟨⟨dp, rt, htt, hv0, hrt0, hht0⟩, _⟩ := id hp
    walk_at "sy"
    refine use_Teller (t := t) hp hia hil (fun H1 A o1 => ?_)
    have hv1 := o1.same _ _ hv0
    have hht1 := o1.same _ _ hht0
    have hx1 : H1 A.x = some (.ins T.a_Teller A.dx (tFs A (s0 t))) := o1.get (by simp [ttop])
    have a1 : atI [V.ref hl] (-1) = some (V.ref hl) := atI_last [] _
    walk_at "sy"
    rename_i f H2 n2
    have M : TAt T ins H H2 { A with f := f } (s0 t) := o1.new n2
    refine ⟨ins, H, { A with f := f }, s0 t, v, hl, rs, 1000, rfl, M, hp, hok, Nat.le_refl _, ⟨?_, ?_, fun p hp => absurd hp (by simp [s0])⟩, fun s' H' h M' => ?_, fun s' H' dd h M' hdd => ?_⟩
    · show 0 + t ≤ 1000
      omega
    · show 0 + t ≤ 1000
      omega
    · have hx' := TAt.x M'
      walk_at "sy"
      rename_i p H3 n3
      exact q H3 p _ s' false h (M'.step n3.same) n3.at_
    · refine ⟨true, T.em_Over_Over, fun _ a fa => ?_, fun z => nomatch z⟩
      have hx' := TAt.x M'
      walk_at "sy"
      refine ⟨_, rfl, rfl, rfl, dd, dryF, .str "dry", rfl, hdd, rfl, ?_⟩
      walk_at "sy"
      rename_i p H3 n3
      exact q H3 p _ s' true h (M'.step n3.same) n3.at_
def spToldOf (T : Tx K mg) : Sp := fun vs H Q _ => ∃ (v hl ia : Addr) (rs : List Nr) (ins : List Int) (t : Nat), vs = [.ref v, .ref ia, .int (t : Int)] ∧ ProgAt T H v hl rs ∧ H ia = some (.lst (ins.map V.int)) ∧ ins.length ≤ 1000 ∧ t ≤ 1000 ∧ (∀ r ∈ rs, okN 2 r) ∧
  ∀ H' p l s' (over : Bool), Go ins rs (s0 t) (s', over) → Same H H' → H' p = some (.tup [.ref l, .str (if over = true then "dry" else "done")]) → H' l = some (.lst (s'.told.map V.int)) → H l = none → Q (.ref p) H'
theorem ok_told_of (T : Tx K mg) : FnOk P w K mg base CX0 14 T.f_told_of T.d_told_of ["program", "inputs", "ticks"] (spToldOf T) := by
  refine T.F_told_of.ok sc_told_of (fun vs H Q E h => ?_) (fun cdv A_ outer s_ H vs Q E hr h => ?_)
  · obtain ⟨v, hl, ia, rs, ins, t, rfl, _⟩ := h
    rfl
  · obtain ⟨v, hl, ia, rs, ins, t, rfl, hp, hia, hil, ht, hok, q⟩ := h
    refine ⟨_, (pss_cons (ps_asg (pe_call (ok_run_of T) (hr.mono (by omega)) rfl T.m_run_of T.F_run_of.kp T.B_run_of .nil pass0 (pa_cons (pv 0) (pa_cons (pv 1) (pa_cons (pv 2) pa_nil)))) (pg_tup rfl (pgs_cons (pg_name (i := 3) sc_told_of.nd rfl (Or.inl rfl)) (pgs_cons (pg_name (i := 4) sc_told_of.nd rfl (Or.inl rfl)) pgs_nil))))
      (pss_one (ps_ret (pe_tup (pa_cons (pe_callTy (list_ofK (K := K) rfl) (by rfl) T.n_list PyProof.Rows.boot_list (pa_cons (fldK (K := K) rfl (pv 3) rfl) pa_nil)) (pa_cons (pv 4) pa_nil)))))), ?_⟩
    have ct := T.cl_Teller
    have ct7 := T.na_Teller_numbers
    walk_at "sy"
    refine ⟨v, hl, ia, rs, ins, t, rfl, hp, hia, hil, ht, hok, fun H1 p1 A s' over h M hp1 => ?_⟩
    have hx' := TAt.x M
    have hn' := TAt.n M
    walk_at "sy"
    rename_i l z H2 n2 p H3 n3
    exact q H3 p l s' over h (M.same.trans (n2.same.trans n3.same)) n3.at_ (n3.get n2.at_) (M.same.free z)
def spWorldOf (T : Tx K mg) : Sp := fun vs H Q _ => ∃ (v hl ia : Addr) (rs : List Nr) (ins : List Int) (t : Nat), vs = [.ref v, .ref ia, .int (t : Int)] ∧ ProgAt T H v hl rs ∧ H ia = some (.lst (ins.map V.int)) ∧ ins.length ≤ 1000 ∧ t ≤ 1000 ∧ (∀ r ∈ rs, okN 2 r) ∧
  ∀ H' x dx l, Same H H' → H' x = some (.ins T.a_World dx [("boxes", .ref l)]) → H' l = some (.lst []) → Q (.ref x) H'
theorem ok_world_of (T : Tx K mg) : FnOk P w K mg base CX0 14 T.f_world_of T.d_world_of ["program", "inputs", "ticks"] (spWorldOf T) := by
  refine T.F_world_of.ok sc_world_of (fun vs H Q E h => ?_) (fun cdv A_ outer s_ H vs Q E hr h => ?_)
  · obtain ⟨v, hl, ia, rs, ins, t, rfl, _⟩ := h
    rfl
  · obtain ⟨v, hl, ia, rs, ins, t, rfl, hp, hia, hil, ht, hok, q⟩ := h
    refine ⟨_, (pss_one (ps_ret (fldK (K := K) rfl (pe_ix (ix_tupK (K := K) rfl) (pe_call (ok_run_of T) (hr.mono (by omega)) rfl T.m_run_of T.F_run_of.kp T.B_run_of .nil pass0 (pa_cons (pv 0) (pa_cons (pv 1) (pa_cons (pv 2) pa_nil)))) pe_int (fun _ _ => rfl)) rfl))), ?_⟩
    have ct := T.cl_Teller
    have ct3 := T.na_Teller_world
    walk_at "sy"
    refine ⟨v, hl, ia, rs, ins, t, rfl, hp, hia, hil, ht, hok, fun H1 p1 A s' over h M hp1 => ?_⟩
    have hx' := TAt.x M
    walk_at "sy"
    exact q H1 A.w A.dw A.wb M.same (M.get (by simp [treg, ttop])) (M.get (by simp [treg, ttop]))
def spMany (T : Tx K mg) : Sp := fun vs H Q _ => ∃ (x dx l : Addr), vs = [.ref x] ∧ H x = some (.ins T.a_World dx [("boxes", .ref l)]) ∧ H l = some (.lst []) ∧ Q (.int 0) H
theorem ok_World_many (T : Tx K mg) : FnOk P w K mg base CX0 1 T.f_World_many T.d_World_many ["self"] (spMany T) := by
  refine T.F_World_many.ok sc_World_many (fun vs H Q E h => ?_) (fun cdv A outer s H vs Q E hr h => ?_)
  · obtain ⟨x, dx, l, rfl, _⟩ := h
    rfl
  · obtain ⟨x, dx, l, rfl, hx, hl, q⟩ := h
    refine ⟨_, (pss_one (ps_ret (pe_callB (len_seqK (K := K) rfl) (by rfl) T.n_len PySem.boot_len (pa_cons (fldK (K := K) rfl (pv 0) rfl) pa_nil)))), ?_⟩
    have c1 := T.cl_World
    have c2 := T.na_World_boxes
    walk_at "sy"
    exact q
end
/-! ### the law's drawers -/
theorem SameBut.own {H H1 H2 : Hp} {tp f : Addr} {u v : HO} (s : SameBut tp H H1) (c : Chg f u v H1 H2) (hf : H f = none) : SameBut tp H H2 := fun x o e n => c.but _ _ (s x o e n) (ne_of_none e hf)
theorem SameBut.more {H H1 H2 : Hp} {tp : Addr} (s : SameBut tp H H1) (t : Same H1 H2) : SameBut tp H H2 := fun x o e n => t _ _ (s x o e n)
theorem SameBut.then {H H1 H2 : Hp} {tp : Addr} (s : SameBut tp H H1) (t : SameBut tp H1 H2) : SameBut tp H H2 := fun x o e n => t _ _ (s x o e n) n
section
variable {P : Program} {w : World} {K : PySem.W.Frag} {mg : Str → Option Value} {base : Heap}
def spPick (K : PySem.W.Frag) : Sp := fun vs H Q _ => ∃ (a tp l : Addr) (ns : List Int) (k : Nat) (xs : List V), vs = [.ref a, .ref tp, .ref l] ∧ Stays K H tp a (ns.map V.int) ∧ H tp = some (.lst [.int (k : Int)]) ∧ k + 1 ≤ 100000 ∧ H l = some (.lst xs) ∧ l ≠ tp ∧ 0 < xs.length ∧
  ∀ (H' : Hp) (i : Nat) (v : V), xs[i]? = some v → Chg tp (.lst [.int (k : Int)]) (.lst [.int ((k + 1 : Nat) : Int)]) H H' → Q v H'
theorem ok_l_pick (T : Tx K mg) : FnOk P w K mg base CX0 2 T.f_l_pick T.d_l_pick ["_law_script", "_law_tape", "_law_some"] (spPick K) := by
  refine T.F_l_pick.ok sc_l_pick (fun vs H Q E h => ?_) (fun cdv A outer s H vs Q E hr h => ?_)
  · obtain ⟨a, tp, l, ns, k, xs, rfl, _⟩ := h
    rfl
  · obtain ⟨a, tp, l, ns, k, xs, rfl, hS, htp, hk, hl, ne, hx, q⟩ := h
    refine ⟨_, (pss_one (ps_ret (pe_ix (ix_listK (K := K) rfl) (pv 2) (pe_call (ok_l_draw T) (hr.mono (by omega)) rfl T.m_l_draw T.F_l_draw.kp T.B_l_draw .nil pass0 (pa_cons (pv 0) (pa_cons (pv 1) (pa_cons (pe_callB (len_seqK (K := K) rfl) (by rfl) T.n_len PySem.boot_len (pa_cons (pv 2) pa_nil)) pa_nil)))) (fun _ _ => rfl)))), ?_⟩
    walk_at "sy"
    refine use_draw hS htp (by omega) (by omega) (fun H1 d c1 l1 u1 => ?_)
    have hl1 := c1.get hl ne
    obtain ⟨n, rfl⟩ : ∃ n : Nat, d = n := Int.eq_ofNat_of_zero_le l1
    have hn : n < xs.length := by omega
    have ai : atI xs (n : Int) = some xs[n] := atI_nat (List.getElem?_eq_getElem hn)
    walk_at "sy"
    exact q H1 n _ (List.getElem?_eq_getElem hn) c1
def spGen (K : PySem.W.Frag) (c : Nat) (R : Hp → V → Prop) : Sp := fun vs H Q _ => ∃ (a tp : Addr) (ns : List Int) (k : Nat), vs = [.ref a, .ref tp] ∧ Stays K H tp a (ns.map V.int) ∧ H tp = some (.lst [.int (k : Int)]) ∧ k + c ≤ 100000 ∧
  ∀ (H' : Hp) (v : V) (k' : Nat), R H' v → k' ≤ k + c → H' tp = some (.lst [.int (k' : Int)]) → SameBut tp H H' → Q v H'
def rAt (_ : Hp) (v : V) : Prop := ∃ a : At, v = atV a ∧ atOk a
theorem ok_l_atom (T : Tx K mg) : FnOk P w K mg base CX0 3 T.f_l_atom T.d_l_atom ["_law_script", "_law_tape"] (spGen K 3 rAt) := by
  refine T.F_l_atom.ok sc_l_atom (fun vs H Q E h => ?_) (fun cdv A outer s H vs Q E hr h => ?_)
  · obtain ⟨a, tp, ns, k, rfl, _⟩ := h
    rfl
  · obtain ⟨a, tp, ns, k, rfl, hS, htp, hk, q⟩ := h
    refine ⟨_, (pss_cons (ps_set (i := 2) sc_l_atom.nd rfl (Or.inl rfl) (pe_lst (pa_cons pe_str (pa_cons pe_str (pa_cons pe_str (pa_cons (pe_call (ok_l_draw T) (hr.mono (by omega)) rfl T.m_l_draw T.F_l_draw.kp T.B_l_draw .nil pass0 (pa_cons (pv 0) (pa_cons (pv 1) (pa_cons pe_int pa_nil)))) (pa_cons pe_int (pa_cons (pe_call (ok_l_draw T) (hr.mono (by omega)) rfl T.m_l_draw T.F_l_draw.kp T.B_l_draw .nil pass0 (pa_cons (pv 0) (pa_cons (pv 1) (pa_cons pe_int pa_nil)))) pa_nil))))))))
      (pss_one (ps_ret (pe_call (ok_l_pick T) (hr.mono (by omega)) rfl T.m_l_pick T.F_l_pick.kp T.B_l_pick .nil pass0 (pa_cons (pv 0) (pa_cons (pv 1) (pa_cons (pv 2) pa_nil))))))), ?_⟩
    walk_at "sy"
    refine use_draw hS htp (by omega) (by decide) (fun H1 d1 c1 l1 u1 => ?_)
    have hS1 := hS.but c1.but
    walk_at "sy"
    refine use_draw hS1 c1.at_ (by omega) (by decide) (fun H2 d2 c2 l2 u2 => ?_)
    have hS2 := hS1.but c2.but
    walk_at "sy"
    rename_i l H3 n3
    have ht3 := n3.get c2.at_
    refine ⟨a, tp, l, ns, k + 2, _, rfl, hS2.but (fun x y e _ => n3.same _ _ e), ht3, by omega, n3.at_, n3.ne c2.at_, by simp, fun H4 i v hv c4 => ?_⟩
    walk_at "sy"
    refine q H4 v (k + 3) ?_ (Nat.le_refl _) c4.at_ (c4.butStep ((c2.butStep c1.but).more n3.same))
    obtain ⟨n1, rfl⟩ : ∃ n : Nat, d1 = n := Int.eq_ofNat_of_zero_le l1
    obtain ⟨n2, rfl⟩ : ∃ n : Nat, d2 = n := Int.eq_ofNat_of_zero_le l2
    have hi := (List.getElem?_eq_some_iff.mp hv).1
    simp only [List.length_cons, List.length_nil] at hi
    have : i = 0 ∨ i = 1 ∨ i = 2 ∨ i = 3 ∨ i = 4 ∨ i = 5 := by omega
    rcases this with rfl | rfl | rfl | rfl | rfl | rfl <;> cases hv
    · exact ⟨.nam "x", rfl, trivial⟩
    · exact ⟨.nam "y", rfl, trivial⟩
    · exact ⟨.nam "z", rfl, trivial⟩
    · exact ⟨.num n1, rfl, by show (n1 : Int) < 1000003; omega⟩
    · exact ⟨.num 1000002, rfl, by show ((1000002 : Nat) : Int) < 1000003; decide⟩
    · exact ⟨.num n2, rfl, u2⟩
def cst : Nat → Nat
  | 0 => 10
  | d + 1 => 11 + 6 * cst d
def RowsD (H : Hp) (d n : Nat) (v : V) (rs : List Nr) : Prop := ∃ (q : Addr) (us : List V), v = .ref q ∧ H q = some (.tup us) ∧ IsDs H (toldNs rs) us ∧ rs.length ≤ n ∧ ∀ r ∈ rs, okN d r
theorem RowsD.keep {H H' : Hp} {d n : Nat} {v : V} {rs : List Nr} (k : Keep H H') (h : RowsD H d n v rs) : RowsD H' d n v rs := by
  obtain ⟨q, us, e, h1, h2, h3, h4⟩ := h
  exact ⟨q, us, e, k _ _ h1 trivial, h2.keep k, h3, h4⟩
def spRowsD (K : PySem.W.Frag) (d : Nat) : Sp := fun vs H Q _ => ∃ (a tp : Addr) (ns : List Int) (k m : Nat), vs = [.ref a, .ref tp, .int (d : Int), .int (m : Int)] ∧ d ≤ 2 ∧ 1 ≤ m ∧ m ≤ 9 ∧ Stays K H tp a (ns.map V.int) ∧ H tp = some (.lst [.int (k : Int)]) ∧ k + m * cst d ≤ 100000 ∧
  ∀ (H' : Hp) (v : V) (k' : Nat) (rs : List Nr), RowsD H' d (2 * m) v rs → k' ≤ k + m * cst d → H' tp = some (.lst [.int (k' : Int)]) → SameBut tp H H' → Q v H'
theorem toldNs_snoc (rs : List Nr) (r : Nr) : toldNs (rs ++ [r]) = toldNs rs ++ [toldN r] := by rw [toldNs_eq, toldNs_eq, List.map_append]; rfl
theorem catT {H : Hp} {Q : VK} {a b : Addr} {xs ys : List V} (ha : H a = some (.tup xs)) (hb : H b = some (.tup ys)) (hl : xs.length + ys.length ≤ sizeLine) (k : ∀ (H' : Hp) (r : Addr), Same H H' → H' r = some (.tup (xs ++ ys)) → Q (.ref r) H') : rCatA K (.ref a) (.ref b) H Q := by
  refine ⟨a, b, xs, ys, rfl, rfl, SqT.of ha, SqT.of hb, hl, fun e => k H b (Same.refl _) ?_, fun _ e => k H a (Same.refl _) ?_, fun _ _ p hp => k _ p (same_upd hp) upd_same⟩
  · subst e
    exact hb
  · subst e
    rw [List.append_nil]
    exact ha
def rMulS : R2 := fun x y H Q => ∃ (s : Str) (n : Nat), x = .str s ∧ y = .int (n : Int) ∧ 1 ≤ n ∧ n ≤ 100 ∧ 1 ≤ s.length ∧ s.length ≤ 100 ∧ (repS s n).length ≤ sizeLine ∧ Q (.str (repS s n)) H
theorem op_mulS2 {X : Cx} : OpR X (PySem.binaryOp .Mult) rMulS := op_mulS
theorem w_mulW {n : Nat} {H : Hp} {Q : VK} (h1 : 1 ≤ n) (h2 : n ≤ 2) (h : Q (.str (repS "w" n)) H) : rMulS (.str "w") (.int (n : Int)) H Q := by
  refine ⟨"w", n, rfl, rfl, h1, by omega, by decide, by decide, ?_, h⟩
  have hz := sizeLine_eq
  have : n = 1 ∨ n = 2 := by omega
  have h3 : (repS "w" n).length ≤ 2 := by
    rcases this with rfl | rfl
    · decide +kernel
    · decide +kernel
  omega
end
local macro_rules | `(tactic| walk_at "use") => `(tactic| ((with_reducible apply w_mulW); (· omega); (· omega)))
section
variable {P : Program} {w : World} {K : PySem.W.Frag} {mg : Str → Option Value} {base : Heap}
theorem IsDs.app {H : Hp} : ∀ {ds es : List Dt} {us ws : List V}, IsDs H ds us → IsDs H es ws → IsDs H (ds ++ es) (us ++ ws)
  | [], _, _, _, h, g => by
    have h : _ = _ := h
    subst h
    exact g
  | _ :: _, _, _, _, ⟨v, r, e, h1, h2⟩, g => by
    subst e
    exact ⟨v, _, rfl, h1, IsDs.app h2 g⟩
theorem atD_of {H : Hp} (a : At) : IsD H (atD a) (atV a) := by cases a <;> exact rfl
def spRowsP (K : PySem.W.Frag) : Nat → Sp
  | 0 => fun _ _ _ _ => False
  | d + 1 => spRowsD K d
theorem ok_l_rowsI {k d : Nat} (T : Tx K mg) (ih : FnOk P w K mg base CX0 (k + 3) T.f_l_rows T.d_l_rows ["_law_script", "_law_tape", "_law_deep", "_law_most"] (spRowsP K d)) : FnOk P w K mg base CX0 (k + 4) T.f_l_rows T.d_l_rows ["_law_script", "_law_tape", "_law_deep", "_law_most"] (spRowsD K d) := by
  refine T.F_l_rows.ok sc_l_rows (fun vs H Q E h => ?_) (fun cdv A outer s H vs Q E hr h => ?_)
  · obtain ⟨a, tp, ns, k, m, rfl, _⟩ := h
    rfl
  · obtain ⟨a, tp, ns, k, m, rfl, hd, hm1, hm9, hS, htp, hk, q⟩ := h
    refine ⟨_, (pss_cons (ps_set (i := 4) sc_l_rows.nd rfl (Or.inl rfl) (pe_lst pa_nil))
      (pss_cons (ps_for PassesOwn.never rfl (pi_range1 rfl T.n_range (pa_cons (pe_call (ok_l_draw T) (hr.mono (by omega)) rfl T.m_l_draw T.F_l_draw.kp T.B_l_draw .nil pass0 (pa_cons (pv 0) (pa_cons (pv 1) (pa_cons (pv 3) pa_nil)))) pa_nil)) (pg_name (i := 5) sc_l_rows.nd rfl (Or.inl rfl))
        (pss_cons (ps_set (i := 6) sc_l_rows.nd rfl (Or.inl rfl) (pe_call (ok_l_draw T) (hr.mono (by omega)) rfl T.m_l_draw T.F_l_draw.kp T.B_l_draw .nil pass0 (pa_cons (pv 0) (pa_cons (pv 1) (pa_cons pe_int pa_nil)))))
        (pss_cons (ps_set (i := 7) sc_l_rows.nd rfl (Or.inl rfl) (pe_call (ok_l_atom T) (hr.mono (by omega)) rfl T.m_l_atom T.F_l_atom.kp T.B_l_atom .nil pass0 (pa_cons (pv 0) (pa_cons (pv 1) pa_nil))))
        (pss_cons (ps_set (i := 8) sc_l_rows.nd rfl (Or.inl rfl) (pe_call (ok_l_pick T) (hr.mono (by omega)) rfl T.m_l_pick T.F_l_pick.kp T.B_l_pick .nil pass0 (pa_cons (pv 0) (pa_cons (pv 1) (pa_cons (pe_lst (pa_cons pe_str (pa_cons pe_str (pa_cons pe_str pa_nil)))) pa_nil)))))
        (pss_one (ps_if (pt_cmpR op_lt (pv 6) pe_int (nomark _))
          (pss_one (ps_expr (pe_bm PySem.F.plainAttrs_list PySem.F.slot_list_append PySem.F.type_list_append mt_append (pv 4) (pa_cons (pe_tup (pa_cons pe_str (pa_cons (pv 7) pa_nil))) pa_nil))))
          (pss_one (ps_if (pt_cmpR op_eq (pv 6) pe_int (nomark _))
            (pss_one (ps_expr (pe_bm PySem.F.plainAttrs_list PySem.F.slot_list_append PySem.F.type_list_append mt_append (pv 4) (pa_cons (pe_tup (pa_cons pe_str (pa_cons (pv 8) pa_nil))) pa_nil))))
            (pss_one (ps_if (PW.pt (pw_or (pt_cmpR op_lt (pv 6) pe_int (nomark _)) (pw_or1 (pt_cmpR op_eq (pv 2) pe_int (nomark _)))))
              (pss_cons (ps_set (i := 9) sc_l_rows.nd rfl (Or.inl rfl) (pe_call (ok_l_pick T) (hr.mono (by omega)) rfl T.m_l_pick T.F_l_pick.kp T.B_l_pick .nil pass0 (pa_cons (pv 0) (pa_cons (pv 1) (pa_cons (pe_lst (pa_cons pe_str (pa_cons pe_str (pa_cons pe_str (pa_cons pe_str (pa_cons pe_str (pa_cons pe_str pa_nil))))))) pa_nil)))))
              (pss_one (ps_expr (pe_bm PySem.F.plainAttrs_list PySem.F.slot_list_append PySem.F.type_list_append mt_append (pv 4) (pa_cons (pe_tup (pa_cons pe_str (pa_cons (pv 8) (pa_cons (pv 7) (pa_cons (pv 9) (pa_cons (pe_ifExp (pt_cmpR op_eq (pv 9) pe_str (nomark _)) pe_int (pe_call (ok_l_atom T) (hr.mono (by omega)) rfl T.m_l_atom T.F_l_atom.kp T.B_l_atom .nil pass0 (pa_cons (pv 0) (pa_cons (pv 1) pa_nil)))) pa_nil)))))) pa_nil)))))
              (pss_one (ps_if (pt_cmpR op_lt (pv 6) pe_int (nomark _))
                (pss_cons (ps_set (i := 10) sc_l_rows.nd rfl (Or.inl rfl) (pe_call ih (hr.mono (by omega)) rfl T.m_l_rows T.F_l_rows.kp T.B_l_rows .nil pass0 (pa_cons (pv 0) (pa_cons (pv 1) (pa_cons (pe_op op_sub (pv 2) pe_int) (pa_cons pe_int pa_nil))))))
                (pss_one (ps_expr (pe_bm PySem.F.plainAttrs_list PySem.F.slot_list_append PySem.F.type_list_append mt_append (pv 4) (pa_cons (pe_tup (pa_cons pe_str (pa_cons (pv 7) (pa_cons (pv 10) (pa_cons (pe_call ih (hr.mono (by omega)) rfl T.m_l_rows T.F_l_rows.kp T.B_l_rows .nil pass0 (pa_cons (pv 0) (pa_cons (pv 1) (pa_cons (pe_op op_sub (pv 2) pe_int) (pa_cons pe_int pa_nil))))) pa_nil))))) pa_nil)))))
                (pss_cons (ps_set (i := 10) sc_l_rows.nd rfl (Or.inl rfl) (pe_op (catAK (K := K) rfl) (pe_call ih (hr.mono (by omega)) rfl T.m_l_rows T.F_l_rows.kp T.B_l_rows .nil pass0 (pa_cons (pv 0) (pa_cons (pv 1) (pa_cons (pe_op op_sub (pv 2) pe_int) (pa_cons pe_int pa_nil))))) (pe_tup (pa_cons (pe_tup (pa_cons pe_str (pa_cons (pe_op op_mulS2 pe_str (pv 2)) (pa_cons (pe_op op_mulS2 pe_str (pv 2)) (pa_cons pe_str (pa_cons pe_int pa_nil)))))) pa_nil))))
                (pss_cons (ps_expr (pe_bm PySem.F.plainAttrs_list PySem.F.slot_list_append PySem.F.type_list_append mt_append (pv 4) (pa_cons (pe_tup (pa_cons pe_str (pa_cons (pe_op op_mulS2 pe_str (pv 2)) (pa_cons (pe_call (ok_l_draw T) (hr.mono (by omega)) rfl T.m_l_draw T.F_l_draw.kp T.B_l_draw .nil pass0 (pa_cons (pv 0) (pa_cons (pv 1) (pa_cons pe_int pa_nil)))) (pa_cons pe_str (pa_cons pe_int pa_nil)))))) pa_nil)))
                (pss_one (ps_expr (pe_bm PySem.F.plainAttrs_list PySem.F.slot_list_append PySem.F.type_list_append mt_append (pv 4) (pa_cons (pe_tup (pa_cons pe_str (pa_cons (pe_ix (ix_listK (K := K) rfl) (pe_lst (pa_cons (pe_op op_mulS2 pe_str (pv 2)) (pa_cons (pv 7) pa_nil))) (pe_callTy call_int1 (by rfl) T.n_int PyProof.Rows.boot_int (pa_cons (pe_cmpR op_eq (pe_call (ok_l_draw T) (hr.mono (by omega)) rfl T.m_l_draw T.F_l_draw.kp T.B_l_draw .nil pass0 (pa_cons (pv 0) (pa_cons (pv 1) (pa_cons pe_int pa_nil)))) pe_int (nomark _)) pa_nil)) (fun _ _ => rfl)) (pa_cons (pv 10) pa_nil)))) pa_nil))))))))))))))))))
      (pss_one (ps_ret (pe_callTy (tuple_ofK (K := K) rfl) (by rfl) T.n_tuple PyProof.Rows.boot_tuple (pa_cons (pv 4) pa_nil)))))), ?_⟩
    have hc : 10 ≤ cst d := by cases d <;> simp only [cst] <;> omega
    have hmc : m * 10 ≤ m * cst d := Nat.mul_le_mul_left _ hc
    walk_at "sy"
    rename_i fl H1 n1
    have ffl := n1.free
    have neF : fl ≠ tp := n1.ne htp
    refine use_draw (hS.but (fun x y e _ => n1.same _ _ e)) (n1.get htp) (by omega) (by omega) (fun H2 d1 c2 l1 u1 => ?_)
    obtain ⟨n, rfl⟩ : ∃ n : Nat, d1 = n := Int.eq_ofNat_of_zero_le l1
    have hnm : n < m := by omega
    walk_at "sy"
    have b2 : SameBut tp H H2 := c2.butStep (fun x y e _ => n1.same _ _ e)
    refine k_forR (fun i σ Hx => ∃ (v5 v6 v7 v8 v9 v10 : Option V) (k1 : Nat) (us : List V) (rs : List Nr), σ = [some (.ref a), some (.ref tp), some (.int (d : Int)), some (.int (m : Int)), some (.ref fl), v5, v6, v7, v8, v9, v10] ∧ SameBut tp H Hx ∧ Hx tp = some (.lst [.int (k1 : Int)]) ∧ k1 ≤ k + 1 + i * cst d ∧ Hx fl = some (.lst us) ∧ IsDs Hx (toldNs rs) us ∧ rs.length ≤ 2 * i ∧ ∀ r ∈ rs, okN d r)
      ⟨none, none, none, none, none, none, k + 1, [], [], rfl, b2, c2.at_, by omega, c2.get n1.at_ neF, rfl, Nat.le_refl _, fun r h => absurd h (by simp)⟩ ?_ ?_
    · rintro i σ Hx hi ⟨v5, v6, v7, v8, v9, v10, k1, us, rs, rfl, bx, htx, hkx, hlx, hus, hrl, hok⟩
      have hul : us.length ≤ 18 := by rw [hus.len, toldNs_len]; omega
      have hib : (i + 1) * cst d ≤ m * cst d := Nat.mul_le_mul_right _ (by omega)
      rw [Nat.add_mul, Nat.one_mul] at hib
      -- what rows more leave
      have finG : ∀ (Hz : Hp) (ws : List V) (xs : List Nr) (k2 : Nat) (w5 w6 w7 w8 w9 w10 : Option V), SameBut tp H Hz → Keep Hx Hz → Hz fl = some (.lst (us ++ ws)) → IsDs Hz (toldNs xs) ws → xs.length ≤ 2 → (∀ r ∈ xs, okN d r) → Hz tp = some (.lst [.int (k2 : Int)]) → k2 ≤ k1 + cst d →
          ∃ (v5 v6 v7 v8 v9 v10 : Option V) (k1 : Nat) (us : List V) (rs : List Nr), [some (V.ref a), some (V.ref tp), some (V.int (d : Int)), some (V.int (m : Int)), some (V.ref fl), w5, w6, w7, w8, w9, w10] = [some (.ref a), some (.ref tp), some (.int (d : Int)), some (.int (m : Int)), some (.ref fl), v5, v6, v7, v8, v9, v10] ∧ SameBut tp H Hz ∧ Hz tp = some (.lst [.int (k1 : Int)]) ∧ k1 ≤ k + 1 + (i + 1) * cst d ∧ Hz fl = some (.lst us) ∧ IsDs Hz (toldNs rs) us ∧ rs.length ≤ 2 * (i + 1) ∧ ∀ r ∈ rs, okN d r := by
        intro Hz ws xs k2 w5 w6 w7 w8 w9 w10 b kp hl hw hx2 hxo htz hk2
        refine ⟨_, _, _, _, _, _, k2, us ++ ws, rs ++ xs, rfl, b, htz, by rw [Nat.add_mul, Nat.one_mul]; omega, hl, ?_, by rw [List.length_append]; omega, fun x hx => ?_⟩
        · rw [toldNs_eq, List.map_append, ← toldNs_eq, ← toldNs_eq]
          exact IsDs.app (hus.keep kp) hw
        · rcases List.mem_append.mp hx with hx | hx
          · exact hok x hx
          · exact hxo x hx
      have fin1 : ∀ (Hy Hz : Hp) (u : V) (r : Nr) (k2 : Nat) (w5 w6 w7 w8 w9 w10 : Option V), SameBut tp Hx Hy → Chg fl (.lst us) (.lst (us ++ [u])) Hy Hz → IsD Hy (toldN r) u → okN d r → Hz tp = some (.lst [.int (k2 : Int)]) → k2 ≤ k1 + cst d →
          ∃ (v5 v6 v7 v8 v9 v10 : Option V) (k1 : Nat) (us : List V) (rs : List Nr), [some (V.ref a), some (V.ref tp), some (V.int (d : Int)), some (V.int (m : Int)), some (V.ref fl), w5, w6, w7, w8, w9, w10] = [some (.ref a), some (.ref tp), some (.int (d : Int)), some (.int (m : Int)), some (.ref fl), v5, v6, v7, v8, v9, v10] ∧ SameBut tp H Hz ∧ Hz tp = some (.lst [.int (k1 : Int)]) ∧ k1 ≤ k + 1 + (i + 1) * cst d ∧ Hz fl = some (.lst us) ∧ IsDs Hz (toldNs rs) us ∧ rs.length ≤ 2 * (i + 1) ∧ ∀ r ∈ rs, okN d r := by
        intro Hy Hz u r k2 w5 w6 w7 w8 w9 w10 b c hu hr htz hk2
        have kp : Keep Hx Hy := fun p o e st => b p o e (fun z => by rw [z, htx] at e; cases e; exact st)
        exact finG Hz [u] [r] k2 _ _ _ _ _ _ ((bx.then b).own c ffl) (kp.trans c.keepL) c.at_ ⟨u, [], rfl, hu.keep c.keepL, rfl⟩ (by simp) (fun x hx => by
          obtain rfl : x = r := by simpa using hx
          exact hr) htz hk2
      have hSx : Stays K Hx tp a (ns.map V.int) := hS.but bx
      walk_at "sy"
      refine use_draw hSx htx (by omega) (by decide) (fun H3 way c3 l3 u3 => ?_)
      have b3 : SameBut tp Hx H3 := c3.but
      have hS3 := hSx.but b3
      walk_at "sy"
      refine ⟨a, tp, ns, k1 + 1, rfl, hS3, c3.at_, by omega, fun H4 v4 k4 h4 hk4 ht4 b4 => ?_⟩
      obtain ⟨a4, rfl, ok4⟩ := h4
      have b34 := b3.then b4
      have hS4 := hS3.but b4
      walk_at "sy"
      rename_i l5 H5 n5
      have hS5 : Stays K H5 tp a (ns.map V.int) := hS4.but (fun x y e _ => n5.same _ _ e)
      refine ⟨a, tp, l5, ns, k4, _, rfl, hS5, n5.get ht4, by omega, n5.at_, n5.ne ht4, by simp, fun H6 i6 v6 hv6 c6 => ?_⟩
      obtain ⟨z, rfl⟩ : ∃ z : Str, v6 = .str z := by
        have hi := (List.getElem?_eq_some_iff.mp hv6).1
        simp only [List.length_cons, List.length_nil] at hi
        have : i6 = 0 ∨ i6 = 1 ∨ i6 = 2 := by omega
        rcases this with rfl | rfl | rfl <;> cases hv6 <;> exact ⟨_, rfl⟩
      have b6 : SameBut tp Hx H6 := (b34.more n5.same).then c6.but
      have hS6 := hS5.but c6.but
      have hl6 := b6 _ _ hlx neF
      have ht6 := c6.at_
      clear hv6
      walk_at "sy"
      by_cases w2 : way < 2
      · refine iteDT w2 ?_
        walk_at "sy"
        rename_i p7 H7 n7 H8 c8
        exact fin1 H7 H8 _ (.tell a4) (k4 + 1) _ _ _ _ _ _ (b6.more n7.same) c8 ⟨p7, _, rfl, n7.at_, _, _, rfl, rfl, _, _, rfl, atD_of a4, rfl⟩ (by cases d <;> exact ok4) (c8.get (n7.get ht6) neF.symm) (by omega)
      refine iteDF w2 ?_
      walk_at "sy"
      by_cases w3 : way = 2
      · refine iteDT w3 ?_
        walk_at "sy"
        rename_i p7 H7 n7 H8 c8
        exact fin1 H7 H8 _ (.ask z) (k4 + 1) _ _ _ _ _ _ (b6.more n7.same) c8 ⟨p7, _, rfl, n7.at_, _, _, rfl, rfl, _, _, rfl, rfl, rfl⟩ (by cases d <;> trivial) (c8.get (n7.get ht6) neF.symm) (by omega)
      refine iteDF w3 ?_
      walk_at "sy"
      by_cases w6 : way < 6
      · refine iteDT w6 ?_
        walk_at "sy"
        rename_i l7 H7 n7
        have hl7 := n7.get hl6
        have hS7 : Stays K H7 tp a (ns.map V.int) := hS6.but (fun x y e _ => n7.same _ _ e)
        refine ⟨a, tp, l7, ns, k4 + 1, _, rfl, hS7, n7.get ht6, by omega, n7.at_, n7.ne ht6, by simp, fun H8 i8 v8 hv8 c8 => ?_⟩
        obtain ⟨g, hg, rfl⟩ : ∃ g ∈ signs, v8 = .str g := by
          have hi := (List.getElem?_eq_some_iff.mp hv8).1
          simp only [List.length_cons, List.length_nil] at hi
          have : i8 = 0 ∨ i8 = 1 ∨ i8 = 2 ∨ i8 = 3 ∨ i8 = 4 ∨ i8 = 5 := by omega
          rcases this with rfl | rfl | rfl | rfl | rfl | rfl <;> cases hv8 <;> exact ⟨_, by simp [signs], rfl⟩
        clear hv8
        have b8 : SameBut tp Hx H8 := (b6.more n7.same).then c8.but
        have hS8 := hS7.but c8.but
        have hl8 := c8.get hl7 neF
        have ht8 := c8.at_
        walk_at "sy"
        by_cases g0 : g = Str.ofString ""
        · refine iteDT g0 ?_
          walk_at "sy"
          rename_i p9 H9 n9 H10 c10
          exact fin1 H9 H10 _ (.set z a4 g (.num 0)) (k4 + 2) _ _ _ _ _ _ (b8.more n9.same) c10 ⟨p9, _, rfl, n9.at_, _, _, rfl, rfl, _, _, rfl, rfl, _, _, rfl, atD_of a4, _, _, rfl, rfl, _, _, rfl, rfl, rfl⟩ (by cases d <;> exact ⟨ok4, hg, (show ((0 : Nat) : Int) < 1000003 by decide)⟩) (c10.get (n9.get ht8) neF.symm) (by omega)
        · refine iteDF g0 ?_
          walk_at "sy"
          refine ⟨a, tp, ns, k4 + 2, rfl, hS8, ht8, by omega, fun H9 v9 k9 h9 hk9 ht9 b9 => ?_⟩
          obtain ⟨a9, rfl, ok9⟩ := h9
          have hl9 := b9 _ _ hl8 neF
          walk_at "sy"
          rename_i p10 H10 n10 H11 c11
          exact fin1 H10 H11 _ (.set z a4 g a9) k9 _ _ _ _ _ _ ((b8.then b9).more n10.same) c11 ⟨p10, _, rfl, n10.at_, _, _, rfl, rfl, _, _, rfl, rfl, _, _, rfl, atD_of a4, _, _, rfl, rfl, _, _, rfl, atD_of a9, rfl⟩ (by cases d <;> exact ⟨ok4, hg, ok9⟩) (c11.get (n10.get ht9) neF.symm) (by omega)
      refine iteDF w6 ?_
      walk_at "sy"
      by_cases w0 : d = 0
      · refine iteDT (by omega) ?_
        walk_at "sy"
        rename_i l7 H7 n7
        have hl7 := n7.get hl6
        have hS7 : Stays K H7 tp a (ns.map V.int) := hS6.but (fun x y e _ => n7.same _ _ e)
        refine ⟨a, tp, l7, ns, k4 + 1, _, rfl, hS7, n7.get ht6, by omega, n7.at_, n7.ne ht6, by simp, fun H8 i8 v8 hv8 c8 => ?_⟩
        obtain ⟨g, hg, rfl⟩ : ∃ g ∈ signs, v8 = .str g := by
          have hi := (List.getElem?_eq_some_iff.mp hv8).1
          simp only [List.length_cons, List.length_nil] at hi
          have : i8 = 0 ∨ i8 = 1 ∨ i8 = 2 ∨ i8 = 3 ∨ i8 = 4 ∨ i8 = 5 := by omega
          rcases this with rfl | rfl | rfl | rfl | rfl | rfl <;> cases hv8 <;> exact ⟨_, by simp [signs], rfl⟩
        clear hv8
        have b8 : SameBut tp Hx H8 := (b6.more n7.same).then c8.but
        have hS8 := hS7.but c8.but
        have hl8 := c8.get hl7 neF
        have ht8 := c8.at_
        walk_at "sy"
        by_cases g0 : g = Str.ofString ""
        · refine iteDT g0 ?_
          walk_at "sy"
          rename_i p9 H9 n9 H10 c10
          exact fin1 H9 H10 _ (.set z a4 g (.num 0)) (k4 + 2) _ _ _ _ _ _ (b8.more n9.same) c10 ⟨p9, _, rfl, n9.at_, _, _, rfl, rfl, _, _, rfl, rfl, _, _, rfl, atD_of a4, _, _, rfl, rfl, _, _, rfl, rfl, rfl⟩ (by cases d <;> exact ⟨ok4, hg, (show ((0 : Nat) : Int) < 1000003 by decide)⟩) (c10.get (n9.get ht8) neF.symm) (by omega)
        · refine iteDF g0 ?_
          walk_at "sy"
          refine ⟨a, tp, ns, k4 + 2, rfl, hS8, ht8, by omega, fun H9 v9 k9 h9 hk9 ht9 b9 => ?_⟩
          obtain ⟨a9, rfl, ok9⟩ := h9
          have hl9 := b9 _ _ hl8 neF
          walk_at "sy"
          rename_i p10 H10 n10 H11 c11
          exact fin1 H10 H11 _ (.set z a4 g a9) k9 _ _ _ _ _ _ ((b8.then b9).more n10.same) c11 ⟨p10, _, rfl, n10.at_, _, _, rfl, rfl, _, _, rfl, rfl, _, _, rfl, atD_of a4, _, _, rfl, rfl, _, _, rfl, atD_of a9, rfl⟩ (by cases d <;> exact ⟨ok4, hg, ok9⟩) (c11.get (n10.get ht9) neF.symm) (by omega)
      refine iteDF (by omega) ?_
      obtain ⟨e, rfl⟩ : ∃ e, d = e + 1 := ⟨d - 1, by omega⟩
      have ec : cst (e + 1) = 11 + 6 * cst e := rfl
      have e1 : ((e + 1 : Nat) : Int) - 1 = (e : Int) := by omega
      walk_at "sy"
      by_cases w8 : way < 8
      · refine iteDT w8 ?_
        walk_at "sy"
        refine ⟨a, tp, ns, k4 + 1, 3, by rw [e1]; rfl, by omega, by decide, by decide, hS6, ht6, by omega, fun H7 v7 k7 rs1 h7 hk7 ht7 b7 => ?_⟩
        have hS7 := hS6.but b7
        have hl7 := b7 _ _ hl6 neF
        walk_at "sy"
        refine ⟨a, tp, ns, k7, 2, by rw [e1]; rfl, by omega, by decide, by decide, hS7, ht7, by omega, fun H8 v8 k8 rs2 h8 hk8 ht8 b8 => ?_⟩
        have hl8 := b8 _ _ hl7 neF
        have k78 : Keep H7 H8 := fun p o e st => b8 p o e (fun z => by rw [z, ht7] at e; cases e; exact st)
        obtain ⟨q1, us1, rfl, hq1, hus1, hrl1, ok1⟩ := h7.keep k78
        obtain ⟨q2, us2, rfl, hq2, hus2, hrl2, ok2⟩ := h8
        walk_at "sy"
        rename_i p9 H9 n9 H10 c10
        exact fin1 H9 H10 _ (.iff a4 rs1 rs2) k8 _ _ _ _ _ _ ((b6.then (b7.then b8)).more n9.same) c10 ⟨p9, _, rfl, n9.at_, _, _, rfl, rfl, _, _, rfl, atD_of a4, _, _, rfl, ⟨q1, us1, rfl, n9.get hq1, hus1.keep n9.keep⟩, _, _, rfl, ⟨q2, us2, rfl, n9.get hq2, hus2.keep n9.keep⟩, rfl⟩ ⟨ok4, by omega, by omega, ok1, ok2⟩ (c10.get (n9.get ht8) neF.symm) (by omega)
      · refine iteDF w8 ?_
        walk_at "sy"
        refine ⟨a, tp, ns, k4 + 1, 3, by rw [e1]; rfl, by omega, by decide, by decide, hS6, ht6, by omega, fun H7 v7 k7 rs1 h7 hk7 ht7 b7 => ?_⟩
        have hS7 := hS6.but b7
        have hl7 := b7 _ _ hl6 neF
        obtain ⟨q1, us1, rfl, hq1, hus1, hrl1, ok1⟩ := h7
        have hus1l : us1.length ≤ 6 := by rw [hus1.len, toldNs_len]; omega
        walk_at "sy"
        rename_i p8 H8 n8 p9 H9 n9
        have hz := sizeLine_eq
        have s79 := n8.same.trans n9.same
        refine catT (s79 _ _ hq1) n9.at_ (by rw [List.length_singleton]; omega) (fun H10 q10 s10 hq10 => ?_)
        have b10 : SameBut tp Hx H10 := (b6.then b7).more (s79.trans s10)
        have hl10 := b10 _ _ hlx neF
        have ht10 := s10 _ _ (s79 _ _ ht7)
        have hS10 : Stays K H10 tp a (ns.map V.int) := hSx.but b10
        have k10 := Keep.of (s79.trans s10)
        have e8 := s10 _ _ (n9.get n8.at_)
        walk_at "sy"
        refine use_draw hS10 ht10 (by omega) (by decide) (fun H11 d11 c11 l11 u11 => ?_)
        obtain ⟨n11, rfl⟩ : ∃ n : Nat, d11 = n := Int.eq_ofNat_of_zero_le l11
        have hl11 := c11.get hl10 neF
        have hS11 := hS10.but c11.but
        walk_at "sy"
        rename_i p12 H12 n12 H13 c13 l14 H14 n14
        have b14 : SameBut tp H H14 := ((((bx.then b10).then c11.but).more n12.same).own c13 ffl).more n14.same
        have ht13 := c13.get (n12.get c11.at_) neF.symm
        refine use_draw (hS.but b14) (n14.get ht13) (by omega) (by decide) (fun H15 d15 c15 l15 u15 => ?_)
        have hl15 := c15.get n14.at_ (n14.ne ht13)
        obtain ⟨aw, haw, okw⟩ : ∃ aw : At, atI [V.str (repS "w" (e + 1)), atV a4] (if decide (d15 = 0) = true then 1 else 0) = some (atV aw) ∧ atOk aw := by
          by_cases h : d15 = 0
          · exact ⟨a4, by rw [decide_eq_true h]; rfl, ok4⟩
          · exact ⟨.nam (repS "w" (e + 1)), by rw [decide_eq_false h]; rfl, trivial⟩
        walk_at "sy"
        rename_i p16 H16 n16 H17 c17
        have kL : ∀ {A B : Hp} {z : Nat}, SameBut tp A B → A tp = some (.lst [.int (z : Int)]) → Keep A B := fun {A B z} b h p o g st => b p o g (fun y => by rw [y, h] at g; cases g; exact st)
        have k1116 : Keep H11 H16 := n12.keep.trans (c13.keepL.trans (n14.keep.trans (c15.keepL.trans n16.keep)))
        have k1016 : Keep H10 H16 := c11.keepL.trans k1116
        have kx10 : Keep Hx H10 := kL b10 htx
        have r8 : IsD H10 (toldN (.set (repS "w" (e + 1)) (.nam (repS "w" (e + 1))) "-" (.num 1))) (.ref p8) := ⟨p8, _, rfl, e8, _, _, rfl, rfl, _, _, rfl, rfl, _, _, rfl, rfl, _, _, rfl, rfl, _, _, rfl, rfl, rfl⟩
        have u10 : IsDs H10 (toldNs (rs1 ++ [.set (repS "w" (e + 1)) (.nam (repS "w" (e + 1))) "-" (.num 1)])) (us1 ++ [.ref p8]) := by
          rw [toldNs_snoc]
          exact IsDs.snoc r8 (hus1.keep k10)
        have r12 : IsD H12 (toldN (.set (repS "w" (e + 1)) (.num n11) "" (.num 0))) (.ref p12) := ⟨p12, _, rfl, n12.at_, _, _, rfl, rfl, _, _, rfl, rfl, _, _, rfl, rfl, _, _, rfl, rfl, _, _, rfl, rfl, rfl⟩
        have k1216 : Keep H12 H16 := c13.keepL.trans (n14.keep.trans (c15.keepL.trans n16.keep))
        have r16 : IsD H16 (toldN (.whl aw (rs1 ++ [.set (repS "w" (e + 1)) (.nam (repS "w" (e + 1))) "-" (.num 1)]))) (.ref p16) := ⟨p16, _, rfl, n16.at_, _, _, rfl, rfl, _, _, rfl, atD_of aw, _, _, rfl, ⟨q10, _, rfl, k1016 _ _ hq10 trivial, u10.keep k1016⟩, rfl⟩
        have okset : ∀ (d' : Nat) (x : Str) (a b : At) (g : Str), atOk a → g ∈ signs → atOk b → okN d' (.set x a g b) := fun d' x a b g h1 h2 h3 => by cases d' <;> exact ⟨h1, h2, h3⟩
        refine finG H17 [.ref p12, .ref p16] [.set (repS "w" (e + 1)) (.num n11) "" (.num 0), .whl aw (rs1 ++ [.set (repS "w" (e + 1)) (.nam (repS "w" (e + 1))) "-" (.num 1)])] (k7 + 1 + 1) _ _ _ _ _ _
          (((b14.then c15.but).more n16.same).own c17 ffl) (kx10.trans (k1016.trans c17.keepL)) (by rw [c17.at_, List.append_assoc]; rfl) ⟨_, _, rfl, (r12.keep k1216).keep c17.keepL, _, _, rfl, r16.keep c17.keepL, rfl⟩ (Nat.le_refl _) ?_ (c17.get (n16.get c15.at_) neF.symm) (by omega)
        intro r hr
        simp only [List.mem_cons, List.not_mem_nil, or_false] at hr
        rcases hr with rfl | rfl
        · exact okset _ _ _ _ _ (show ((n11 : Nat) : Int) < 1000003 by omega) (by simp [signs]) (show ((0 : Nat) : Int) < 1000003 by decide)
        · refine ⟨okw, by rw [List.length_append]; simp; omega, fun r hr => ?_⟩
          rcases List.mem_append.mp hr with hr | hr
          · exact ok1 r hr
          · obtain rfl := List.mem_singleton.mp hr
            exact okset _ _ _ _ _ trivial (by simp [signs]) (show ((1 : Nat) : Int) < 1000003 by decide)
    · rintro σ Hx ⟨v5, v6, v7, v8, v9, v10, k1, us, rs, rfl, bx, htx, hkx, hlx, hus, hrl, hok⟩
      walk_at "sy"
      rename_i t z H1 n1
      have hib : (n + 1) * cst d ≤ m * cst d := Nat.mul_le_mul_right _ (by omega)
      rw [Nat.add_mul, Nat.one_mul] at hib
      simp only [Int.toNat_natCast] at hkx hrl
      exact q H1 _ k1 rs ⟨t, us, rfl, n1.at_, hus.keep n1.keep, by omega, hok⟩ (by omega) (n1.get htx) (bx.more n1.same)
theorem ok_l_rowsN (T : Tx K mg) : FnOk P w K mg base CX0 3 T.f_l_rows T.d_l_rows ["_law_script", "_law_tape", "_law_deep", "_law_most"] (fun _ _ _ _ => False) := T.F_l_rows.ok sc_l_rows (fun vs H Q E h => h.elim) (fun cdv A outer s H vs Q E hr h => h.elim)
theorem ok_l_rows (T : Tx K mg) : ∀ d : Nat, FnOk P w K mg base CX0 (d + 4) T.f_l_rows T.d_l_rows ["_law_script", "_law_tape", "_law_deep", "_law_most"] (spRowsD K d)
  | 0 => ok_l_rowsI (k := 0) (d := 0) T (ok_l_rowsN T)
  | d + 1 => ok_l_rowsI (k := d + 1) (d := d + 1) T (ok_l_rows T d)
end
/-! ### the law's own walk: a row of numbers -/
structure LA where
  r : Addr
  f : Addr
  n : Addr
  i : Addr
def lD (A : LA) (s : S) (t : Int) : List (L2.Key × V) := [(Sum.inr "ticks", .int t), (Sum.inr "told", .ref A.n), (Sum.inr "inputs", .ref A.i), (Sum.inr "asked", .int (s.k : Int))]
def lreg (A : LA) (s : S) (t : Int) : Reg := [(A.f, .dK (envV s.env)), (A.n, .lst (s.told.map V.int)), (A.r, .dK (lD A s t))]
structure LAt (ins : List Int) (H0 H : Hp) (A : LA) (s : S) (t : Int) : Prop where
  own : Own H0 H (lreg A s t)
  inp : H0 A.i = some (.lst (ins.map V.int))
section
variable {ins : List Int} {H0 H H' : Hp} {A : LA} {s s' : S} {t t' : Int}
theorem LAt.f (M : LAt ins H0 H A s t) : H A.f = some (.dK (envV s.env)) := M.own.get (by simp [lreg])
theorem LAt.n (M : LAt ins H0 H A s t) : H A.n = some (.lst (s.told.map V.int)) := M.own.get (by simp [lreg])
theorem LAt.r (M : LAt ins H0 H A s t) : H A.r = some (.dK (lD A s t)) := M.own.get (by simp [lreg])
theorem LAt.i (M : LAt ins H0 H A s t) : H A.i = some (.lst (ins.map V.int)) := M.own.same _ _ M.inp
theorem LAt.fr (M : LAt ins H0 H A s t) : A.f ≠ A.r := by
  have := M.own.nd
  simp [keys, lreg] at this
  exact this.1.2
theorem LAt.ir (M : LAt ins H0 H A s t) : A.i ≠ A.r := fun e => by
  have := M.own.fresh A.r (by simp [keys, lreg])
  rw [← e, M.inp] at this
  cases this
theorem LAt.if_ (M : LAt ins H0 H A s t) : A.i ≠ A.f := fun e => by
  have := M.own.fresh A.f (by simp [keys, lreg])
  rw [← e, M.inp] at this
  cases this
theorem LAt.step (M : LAt ins H0 H A s t) (z : Same H H') : LAt ins H0 H' A s t := ⟨M.own.step z, M.inp⟩
theorem LAt.chgR (M : LAt ins H0 H A s t) {c : HO} (k : Chg A.r c (.dK (lD A s' t')) H H') (h1 : s'.env = s.env) (h2 : s'.told = s.told) : LAt ins H0 H' A s' t' := by
  have := Own.at (l1 := [_, _]) (l2 := []) M.own k
  refine ⟨?_, M.inp⟩
  unfold lreg
  rw [h1, h2]
  exact this
theorem LAt.chgF (M : LAt ins H0 H A s t) {c : HO} (k : Chg A.f c (.dK (envV s'.env)) H H') (h1 : s'.k = s.k) (h2 : s'.told = s.told) : LAt ins H0 H' A s' t := by
  have := Own.at (l1 := []) (l2 := [_, _]) M.own k
  refine ⟨?_, M.inp⟩
  unfold lreg lD
  rw [h1, h2]
  exact this
theorem LAt.chgN (M : LAt ins H0 H A s t) {c : HO} (k : Chg A.n c (.lst (s'.told.map V.int)) H H') (h1 : s'.k = s.k) (h2 : s'.env = s.env) : LAt ins H0 H' A s' t := by
  have := Own.at (l1 := [_]) (l2 := [_]) M.own k
  refine ⟨?_, M.inp⟩
  unfold lreg lD
  rw [h1, h2]
  exact this
end
def sm (one other : Int) : List Int := [one, one + other, one - other, one * other, if decide (one < other) = true then 1 else 0, if decide (one = other) = true then 1 else 0]
theorem sign_ix {g : Str} (hg : g ∈ signs) : ∃ j : Nat, j < 6 ∧ (signs.map V.str)[j]? = some (.str g) ∧ (∀ (m : Nat) (z' : V), m < j → (signs.map V.str)[m]? = some z' → eqV z' (.str g) = false) ∧
    ∀ one other : Int, 0 ≤ one → one < PRM → ((sm one other).getD j 0) % PRM = reck one g other := by
  have hb : ∀ b : Bool, ((if b = true then 1 else 0 : Int)) % PRM = if b = true then 1 else 0 := fun b => by cases b <;> decide
  simp only [signs, List.mem_cons, List.not_mem_nil, or_false] at hg
  have ns : ∀ (j : Nat) (g : Str), (signs.map V.str)[j]? = some (.str g) → (∀ m, m < j → signs[m]? ≠ some g) → ∀ (m : Nat) (z' : V), m < j → (signs.map V.str)[m]? = some z' → eqV z' (.str g) = false := fun j g _ h m z' hm hz => by
    rw [List.getElem?_map] at hz
    obtain ⟨u, hu, rfl⟩ := Option.map_eq_some_iff.mp hz
    have : u ≠ g := fun e => h m hm (by rw [hu, e])
    show decide (u = g) = false
    exact decide_eq_false this
  rcases hg with rfl | rfl | rfl | rfl | rfl | rfl
  · refine ⟨0, by decide, rfl, ns 0 _ rfl (by intro m hm; rcases m with _ | _ | _ | _ | _ | m <;> first | omega | decide +kernel), fun one other h0 h1 => Int.emod_eq_of_lt h0 h1⟩
  · refine ⟨1, by decide, rfl, ns 1 _ rfl (by intro m hm; rcases m with _ | _ | _ | _ | _ | m <;> first | omega | decide +kernel), fun one other h0 h1 => rfl⟩
  · refine ⟨2, by decide, rfl, ns 2 _ rfl (by intro m hm; rcases m with _ | _ | _ | _ | _ | m <;> first | omega | decide +kernel), fun one other h0 h1 => rfl⟩
  · refine ⟨3, by decide, rfl, ns 3 _ rfl (by intro m hm; rcases m with _ | _ | _ | _ | _ | m <;> first | omega | decide +kernel), fun one other h0 h1 => rfl⟩
  · refine ⟨4, by decide, rfl, ns 4 _ rfl (by intro m hm; rcases m with _ | _ | _ | _ | _ | m <;> first | omega | decide +kernel), fun one other h0 h1 => by
      show (if decide (one < other) = true then (1 : Int) else 0) % PRM = if one < other then 1 else 0
      rw [hb]
      by_cases h : one < other <;> simp [h]⟩
  · refine ⟨5, by decide, rfl, ns 5 _ rfl (by intro m hm; rcases m with _ | _ | _ | _ | _ | m <;> first | omega | decide +kernel), fun one other h0 h1 => by
      show (if decide (one = other) = true then (1 : Int) else 0) % PRM = if one = other then 1 else 0
      rw [hb]
      by_cases h : one = other <;> simp [h]⟩
section
variable {P : Program} {w : World} {K : PySem.W.Frag} {mg : Str → Option Value} {base : Heap}
def spVal : Sp := fun vs H Q _ => ∃ (f : Addr) (a : At) (s : S), vs = [.ref f, atV a] ∧ H f = some (.dK (envV s.env)) ∧ Q (.int (val s a)) H
theorem ok_l_value (T : Tx K mg) : FnOk P w K mg base CX0 1 T.f_l_value T.d_l_value ["_law_env", "_law_atom_here"] spVal := by
  refine T.F_l_value.ok sc_l_value (fun vs H Q E h => ?_) (fun cdv A_ outer s_ H vs Q E hr h => ?_)
  · obtain ⟨f, a, s, rfl, _⟩ := h
    rfl
  · obtain ⟨f, a, s, rfl, hf, q⟩ := h
    have hu := hu_of hr
    refine ⟨_, (pss_one (ps_ret (pe_ifExp (pt_val (pe_callB (isiK (K := K) rfl) (by rfl) T.n_isinstance PyProof.Rows.boot_isinstance (pa_cons (pv 1) (pa_cons (pe_bltn (v := .ty "int") (by rfl) T.n_int PyProof.Rows.boot_int rfl) pa_nil)))) (pv 1) (pe_dget2 hu (pv 0) (pv 1) pe_int ⟨rfl, rfl, rfl, rfl⟩)))), ?_⟩
    cases a with
    | num n =>
      simp only [atV]
      walk_at "sy"
      exact q
    | nam z =>
      simp only [atV]
      walk_at "sy"
      have q2 : Q (((lookE s.env z).map V.int).getD (.int 0)) H := by
        have : ((lookE s.env z).map V.int).getD (.int 0) = V.int (val s (.nam z)) := by
          show _ = V.int ((lookE s.env z).getD 0)
          cases lookE s.env z <;> rfl
        rw [this]
        exact q
      rw [← valV_envV] at q2
      exact q2
def spLNum : Sp := fun vs H Q _ => ∃ (ins : List Int) (H0 : Hp) (A : LA) (s : S) (t : Int) (v : V) (r : Nr) (d b : Nat), vs = [.ref A.r, .ref A.f, v] ∧ LAt ins H0 H A s t ∧ IsD H0 (toldN r) v ∧ isNum r = true ∧ okN d r ∧ b ≤ 999 ∧ SOk b s ∧ ∀ H', LAt ins H0 H' A (numR ins r s) t → Q .non H'
theorem ok_l_number (T : Tx K mg) : FnOk P w K mg base CX0 2 T.f_l_number T.d_l_number ["_law_run", "_law_env", "_law_told"] spLNum := by
  refine T.F_l_number.ok sc_l_number (fun vs H Q E h => ?_) (fun cdv A_ outer s_ H vs Q E hr h => ?_)
  · obtain ⟨ins, H0, A, s, t, v, r, d, b, rfl, _⟩ := h
    rfl
  · obtain ⟨ins, H0, A, s, t, v, r, d, b, rfl, M, hrow, hn, hok, hb, hs, q⟩ := h
    have hu := hu_of hr
    refine ⟨_, (pss_one (ps_if (pt_cmpR op_eq (pe_ix (ix_tupK (K := K) rfl) (pv 2) pe_int (fun _ _ => rfl)) pe_str (nomark _))
        (pss_cons (ps_dput hu (pv 1) (pe_ix (ix_tupK (K := K) rfl) (pv 2) pe_int (fun _ _ => rfl)) (pe_ifExp (pt_cmpR op_lt (pe_dget hu (pv 0) pe_str (fun _ _ => rfl)) (pe_callB (len_seqK (K := K) rfl) (by rfl) T.n_len PySem.boot_len (pa_cons (pe_dget hu (pv 0) pe_str (fun _ _ => rfl)) pa_nil)) (nomark _)) (pe_op op_mod (pe_ix (ix_listK (K := K) rfl) (pe_dget hu (pv 0) pe_str (fun _ _ => rfl)) (pe_dget hu (pv 0) pe_str (fun _ _ => rfl)) (fun _ _ => rfl)) pe_int) pe_int) rfl)
        (pss_one (ps_dput hu (pv 0) pe_str (pe_op op_add (pe_dget hu (pv 0) pe_str (fun _ _ => rfl)) pe_int) rfl)))
        (pss_one (ps_if (pt_cmpR op_eq (pe_ix (ix_tupK (K := K) rfl) (pv 2) pe_int (fun _ _ => rfl)) pe_str (nomark _))
          (pss_one (ps_expr (pe_bm PySem.F.plainAttrs_list PySem.F.slot_list_append PySem.F.type_list_append mt_append (pe_dget hu (pv 0) pe_str (fun _ _ => rfl)) (pa_cons (pe_call (ok_l_value T) (hr.mono (by omega)) rfl T.m_l_value T.F_l_value.kp T.B_l_value .nil pass0 (pa_cons (pv 1) (pa_cons (pe_ix (ix_tupK (K := K) rfl) (pv 2) pe_int (fun _ _ => rfl)) pa_nil))) pa_nil))))
          (pss_cons (ps_set (i := 3) sc_l_number.nd rfl (Or.inl rfl) (pe_call (ok_l_value T) (hr.mono (by omega)) rfl T.m_l_value T.F_l_value.kp T.B_l_value .nil pass0 (pa_cons (pv 1) (pa_cons (pe_ix (ix_tupK (K := K) rfl) (pv 2) pe_int (fun _ _ => rfl)) pa_nil))))
          (pss_cons (ps_set (i := 4) sc_l_number.nd rfl (Or.inl rfl) (pe_call (ok_l_value T) (hr.mono (by omega)) rfl T.m_l_value T.F_l_value.kp T.B_l_value .nil pass0 (pa_cons (pv 1) (pa_cons (pe_ix (ix_tupK (K := K) rfl) (pv 2) pe_int (fun _ _ => rfl)) pa_nil))))
          (pss_cons (ps_set (i := 5) sc_l_number.nd rfl (Or.inl rfl) (pe_lst (pa_cons (pv 3) (pa_cons (pe_op op_add (pv 3) (pv 4)) (pa_cons (pe_op op_sub (pv 3) (pv 4)) (pa_cons (pe_op op_mul (pv 3) (pv 4)) (pa_cons (pe_callTy call_int1 (by rfl) T.n_int PyProof.Rows.boot_int (pa_cons (pe_cmpR op_lt (pv 3) (pv 4) (nomark _)) pa_nil)) (pa_cons (pe_callTy call_int1 (by rfl) T.n_int PyProof.Rows.boot_int (pa_cons (pe_cmpR op_eq (pv 3) (pv 4) (nomark _)) pa_nil)) pa_nil))))))))
          (pss_one (ps_dput hu (pv 1) (pe_ix (ix_tupK (K := K) rfl) (pv 2) pe_int (fun _ _ => rfl)) (pe_op op_mod (pe_ix (ix_listK (K := K) rfl) (pv 5) (pe_bm PySem.F.plainAttrs_list PySem.F.slot_list_index PySem.F.type_list_index mt_index (pe_lst (pa_cons pe_str (pa_cons pe_str (pa_cons pe_str (pa_cons pe_str (pa_cons pe_str (pa_cons pe_str pa_nil))))))) (pa_cons (pe_ix (ix_tupK (K := K) rfl) (pv 2) pe_int (fun _ _ => rfl)) pa_nil)) (fun _ _ => rfl)) pe_int) rfl))))))))), ?_⟩
    have hr0 := M.r
    have hf := M.f
    have hi := M.i
    have hnn := M.n
    have nfr := M.fr
    have nir := M.ir
    have nif := M.if_
    have hel : (envV s.env).length ≤ 1000 := by rw [envV_len]; have := hs.e; omega
    have htl : s.told.length ≤ 1000 := by have := hs.a; omega
    have hrow := hrow.keep (Keep.of M.own.same)
    have d1 : valV (lD A s t) (Sum.inr "told") = some (.ref A.n) := rfl
    have d2 : valV (lD A s t) (Sum.inr "inputs") = some (.ref A.i) := rfl
    have d3 : valV (lD A s t) (Sum.inr "asked") = some (.int (s.k : Int)) := rfl
    have dl : (lD A s t).length ≤ 4 := Nat.le_refl _
    cases r with
    | set x a g c =>
      obtain ⟨p, vs, rfl, hp, hvs⟩ := hrow
      obtain ⟨_, _, rfl, hw, hvs⟩ := hvs
      obtain rfl : _ = V.str "set" := hw
      obtain ⟨v0, _, rfl, h0, hvs⟩ := hvs
      obtain rfl : v0 = _ := h0
      obtain ⟨v1, _, rfl, h1, hvs⟩ := hvs
      obtain rfl := atV_of h1
      obtain ⟨v2, _, rfl, h2, hvs⟩ := hvs
      obtain rfl : v2 = _ := h2
      obtain ⟨v3, _, rfl, h3, hvs⟩ := hvs
      obtain rfl := atV_of h3
      obtain rfl : _ = _ := hvs
      have ha : atOk a ∧ g ∈ signs ∧ atOk c := by cases d <;> exact hok
      have v1 := val_in hs ha.1
      have v2 := val_in hs ha.2.2
      have v1' : val s a < 1000003 := v1.2
      have v2' : val s c < 1000003 := v2.2
      obtain ⟨v10, _⟩ := v1
      obtain ⟨v20, _⟩ := v2
      walk_at "sy"
      refine ⟨A.f, a, s, rfl, hf, ?_⟩
      walk_at "sy"
      refine ⟨A.f, c, s, rfl, hf, ?_⟩
      walk_at "sy"
      rename_i ls H1 n1 lg H2 n2
      obtain ⟨j, hj, hj1, hj2, hj3⟩ := sign_ix ha.2.1
      have aj : atI ((sm (val s a) (val s c)).map V.int) (j : Int) = some (.int ((sm (val s a) (val s c)).getD j 0)) := ints_at (by
        rw [List.getD_eq_getElem?_getD, List.getElem?_eq_getElem (by exact hj)]
        rfl)
      have er := hj3 (val s a) (val s c) v10 v1'
      refine ⟨lg, signs.map V.str, .str g, j, .str g, rfl, rfl, SqL.of n2.at_, rfl, rfl, hj1, by simp [eqV], hj2, ?_⟩
      refine w_ixL (n2.get n1.at_) aj ?_
      have hf2 := n2.get (n1.get hf)
      generalize (sm (val s a) (val s c)).getD j 0 = y at er
      walk_at "sy"
      rename_i H3 c3
      have e2 : y % 1000003 = reck (val s a) g (val s c) := er
      rw [e2, putK_envV] at c3
      exact q _ ((M.step (n1.same.trans n2.same)).chgF (s' := numR ins (.set x a g c) s) c3 rfl rfl)
    | ask x =>
      obtain ⟨p, vs, rfl, hp, hvs⟩ := hrow
      obtain ⟨_, _, rfl, hw, hvs⟩ := hvs
      obtain rfl : _ = V.str "ask" := hw
      obtain ⟨v0, _, rfl, h0, hvs⟩ := hvs
      obtain rfl : v0 = _ := h0
      obtain rfl : _ = _ := hvs
      have fin : ∀ (v : Int) (H1 H2 : Hp), inp ins s.k = v → Chg A.f (.dK (envV s.env)) (.dK (putK (envV s.env) (Sum.inr x) (.int v))) H H1 → Chg A.r (.dK (lD A s t)) (.dK (putK (lD A s t) (Sum.inr "asked") (.int ((s.k : Int) + 1)))) H1 H2 → Q .non H2 := fun v H1 H2 e c1 c2 => by
        rw [putK_envV, ← e] at c1
        have M1 : LAt ins H0 H1 A { s with env := putE s.env x (inp ins s.k) } t := M.chgF (s' := { s with env := putE s.env x (inp ins s.k) }) c1 rfl rfl
        exact q _ (M1.chgR (s' := numR ins (.ask x) s) (t' := t) c2 rfl rfl)
      walk_at "sy"
      by_cases hk : s.k < ins.length
      · obtain ⟨v, hv⟩ : ∃ v, ins[s.k]? = some v := ⟨_, List.getElem?_eq_getElem hk⟩
        have ai := ints_at hv
        refine iteDT (by rw [List.length_map]; omega) ?_
        walk_at "sy"
        rename_i H1 c1 H2 c2
        exact fin _ _ _ (by unfold inp; rw [hv]) c1 c2
      · refine iteDF (by rw [List.length_map]; omega) ?_
        walk_at "sy"
        rename_i H1 c1 H2 c2
        exact fin _ _ _ (by unfold inp; rw [List.getElem?_eq_none (by omega)]) c1 c2
    | tell a =>
      obtain ⟨p, vs, rfl, hp, hvs⟩ := hrow
      obtain ⟨_, _, rfl, hw, hvs⟩ := hvs
      obtain rfl : _ = V.str "tell" := hw
      obtain ⟨v0, _, rfl, h0, hvs⟩ := hvs
      obtain rfl := atV_of h0
      obtain rfl : _ = _ := hvs
      walk_at "sy"
      refine ⟨A.f, a, s, rfl, hf, ?_⟩
      walk_at "sy"
      rename_i H1 c1
      have e : s.told.map V.int ++ [V.int (val s a)] = (s.told ++ [val s a]).map V.int := by rw [List.map_append]; rfl
      rw [e] at c1
      exact q _ (M.chgN (s' := numR ins (.tell a) s) c1 rfl rfl)
    | iff a rs os => cases hn
    | whl a rs => cases hn
end
/-! ### the law's own walk -/
def tk (s : S) (over : Bool) : Int := if over = true then -1 else (s.t : Int)
def TDo (ins : List Int) (r : Nr) (s : S) (o : S × Bool) : Prop := (s.t = 0 ∧ o = (s, true)) ∨ (0 < s.t ∧ Do ins r s.tick o)
theorem TDo.go {ins : List Int} {r : Nr} {rs : List Nr} {s s' : S} (h : TDo ins r s (s', true)) : Go ins (r :: rs) s (s', true) := by
  rcases h with ⟨h1, h2⟩ | ⟨h1, h2⟩
  · cases h2
    exact .dry h1
  · exact .stop h1 h2
theorem TDo.then {ins : List Int} {r : Nr} {rs : List Nr} {s s' : S} {o : S × Bool} (h : TDo ins r s (s', false)) (g : Go ins rs s' o) : Go ins (r :: rs) s o := by
  rcases h with ⟨h1, h2⟩ | ⟨h1, h2⟩
  · cases h2
  · exact .next h1 h2 g
theorem TDo.ok {ins : List Int} {r : Nr} {s : S} {o : S × Bool} {b d : Nat} (h : TDo ins r s o) (hs : SOk b s) (hr : okN d r) : SOk b o.1 := by
  rcases h with ⟨h1, h2⟩ | ⟨h1, h2⟩
  · subst h2
    exact hs
  · have := Do.ok h2 (hs.tick h1) hr
    rwa [Nat.sub_add_cancel (by have := hs.a; omega)] at this
section
variable {P : Program} {w : World} {K : PySem.W.Frag} {mg : Str → Option Value} {base : Heap}
def spWalk (d : Nat) : Sp := fun vs H Q _ => ∃ (ins : List Int) (H0 : Hp) (A : LA) (s : S) (p : Addr) (us : List V) (rs : List Nr) (b : Nat), vs = [.ref A.r, .ref A.f, .ref p] ∧ LAt ins H0 H A s (s.t : Int) ∧ H0 p = some (.tup us) ∧ IsDs H0 (toldNs rs) us ∧ (∀ r ∈ rs, okN d r) ∧ b ≤ 1000 ∧ SOk b s ∧
  ∀ s' over H', Go ins rs s (s', over) → LAt ins H0 H' A s' (tk s' over) → Q .non H'
def spWalkP : Nat → Sp
  | 0 => fun _ _ _ _ => False
  | d + 1 => spWalk d
theorem ok_l_walkI {k d : Nat} (T : Tx K mg) (ih : FnOk P w K mg base CX0 (k + 3) T.f_l_walk T.d_l_walk ["_law_run", "_law_env", "_law_rows_here"] (spWalkP d)) : FnOk P w K mg base CX0 (k + 4) T.f_l_walk T.d_l_walk ["_law_run", "_law_env", "_law_rows_here"] (spWalk d) := by
  refine T.F_l_walk.ok sc_l_walk (fun vs H Q E h => ?_) (fun cdv A_ outer s_ H vs Q E hr h => ?_)
  · obtain ⟨ins, H0, A, s, p, us, rs, b, rfl, _⟩ := h
    rfl
  · obtain ⟨ins, H0, A, s, p, us, rs, b, rfl, M, hp0, hus, hok, hb, hs, q⟩ := h
    have hu := hu_of hr
    refine ⟨_, (pss_one (ps_for PassesOwn.never rfl (pi_tupK (K := K) rfl (pv 2)) (pg_name (i := 3) sc_l_walk.nd rfl (Or.inl rfl))
        (pss_cons (ps_set (i := 4) sc_l_walk.nd rfl (Or.inl rfl) (pe_cmpR op_ge (pe_dget hu (pv 0) pe_str (fun _ _ => rfl)) pe_int (nomark _)))
        (pss_one (ps_while PassesOwn.never (pt_val (pv 4))
          (pss_cons (ps_set (i := 4) sc_l_walk.nd rfl (Or.inl rfl) pe_bl)
          (pss_cons (ps_dput hu (pv 0) pe_str (pe_op op_sub (pe_dget hu (pv 0) pe_str (fun _ _ => rfl)) pe_int) rfl)
          (pss_one (ps_if (PW.pt (pw_and (pt_cmpR op_ge (pe_dget hu (pv 0) pe_str (fun _ _ => rfl)) pe_int (nomark _)) (pw_and1 (pt_cmpR op_eq (pe_ix (ix_tupK (K := K) rfl) (pv 3) pe_int (fun _ _ => rfl)) pe_str (nomark _)))))
            (pss_one (ps_expr (pe_call ih (hr.mono (by omega)) rfl T.m_l_walk T.F_l_walk.kp T.B_l_walk .nil pass0 (pa_cons (pv 0) (pa_cons (pv 1) (pa_cons (pe_ix (ix_listK (K := K) rfl) (pe_lst (pa_cons (pe_ix (ix_tupK (K := K) rfl) (pv 3) pe_int (fun _ _ => rfl)) (pa_cons (pe_ix (ix_tupK (K := K) rfl) (pv 3) pe_int (fun _ _ => rfl)) pa_nil))) (pe_callTy call_int1 (by rfl) T.n_int PyProof.Rows.boot_int (pa_cons (pe_cmpR op_ne (pe_call (ok_l_value T) (hr.mono (by omega)) rfl T.m_l_value T.F_l_value.kp T.B_l_value .nil pass0 (pa_cons (pv 1) (pa_cons (pe_ix (ix_tupK (K := K) rfl) (pv 3) pe_int (fun _ _ => rfl)) pa_nil))) pe_int (nomark _)) pa_nil)) (fun _ _ => rfl)) pa_nil))))))
            (pss_one (ps_if (PW.pt (pw_and (pt_cmpR op_ge (pe_dget hu (pv 0) pe_str (fun _ _ => rfl)) pe_int (nomark _)) (pw_and1 (pt_cmpR op_eq (pe_ix (ix_tupK (K := K) rfl) (pv 3) pe_int (fun _ _ => rfl)) pe_str (nomark _)))))
              (pss_one (ps_if (pt_cmpR op_ne (pe_call (ok_l_value T) (hr.mono (by omega)) rfl T.m_l_value T.F_l_value.kp T.B_l_value .nil pass0 (pa_cons (pv 1) (pa_cons (pe_ix (ix_tupK (K := K) rfl) (pv 3) pe_int (fun _ _ => rfl)) pa_nil))) pe_int (nomark _))
                (pss_cons (ps_expr (pe_call ih (hr.mono (by omega)) rfl T.m_l_walk T.F_l_walk.kp T.B_l_walk .nil pass0 (pa_cons (pv 0) (pa_cons (pv 1) (pa_cons (pe_ix (ix_tupK (K := K) rfl) (pv 3) pe_int (fun _ _ => rfl)) pa_nil)))))
                (pss_one (ps_set (i := 4) sc_l_walk.nd rfl (Or.inl rfl) (pe_cmpR op_ge (pe_dget hu (pv 0) pe_str (fun _ _ => rfl)) pe_int (nomark _)))))
                pss_nil))
              (pss_one (ps_if (pt_cmpR op_ge (pe_dget hu (pv 0) pe_str (fun _ _ => rfl)) pe_int (nomark _))
                (pss_one (ps_expr (pe_call (ok_l_number T) (hr.mono (by omega)) rfl T.m_l_number T.F_l_number.kp T.B_l_number .nil pass0 (pa_cons (pv 0) (pa_cons (pv 1) (pa_cons (pv 3) pa_nil))))))
                pss_nil))))))))))))), ?_⟩
    have hp := M.own.same _ _ hp0
    have hul := hus.len
    rw [toldNs_len] at hul
    walk_at "sy"
    refine k_forT us (fun i σ Hx => ∃ (s1 : S) (over : Bool) (v3 v4 : Option V), σ = [some (.ref A.r), some (.ref A.f), some (.ref p), v3, v4] ∧ LAt ins H0 Hx A s1 (tk s1 over) ∧ (over = false → SOk b s1 ∧ ∀ o, Go ins (rs.drop i) s1 o → Go ins rs s o) ∧ (over = true → Go ins rs s (s1, true))) ⟨s, false, none, none, rfl, M, fun _ => ⟨hs, fun o h => h⟩, fun h => nomatch h⟩ (fun i σ Hx _ h => ?_) ?_ ?_
    · obtain ⟨s1, over, v3, v4, rfl, M1, _⟩ := h
      exact SqT.of (M1.own.same _ _ hp0)
    · rintro i x σ Hx hx ⟨s1, over, v3, v4, rfl, M1, hg1, hg2⟩
      obtain ⟨dd, hd1, hrow⟩ := hus.at hx
      obtain ⟨r, hr1, rfl⟩ := told_at hd1
      have ed := drop_cons hr1
      have hokr := hok r (List.mem_of_getElem? hr1)
      have hrx := M1.r
      have d4 : ∀ (s : S) (t : Int), valV (lD A s t) (Sum.inr "ticks") = some (.int t) := fun _ _ => rfl
      have d5 := d4 s1 (tk s1 over)
      have dl : ∀ (s : S) (t : Int), (lD A s t).length ≤ 4 := fun s t => Nat.le_refl _
      walk_at "sy"
      cases over with
      | true =>
        have hlow : ¬ (tk s1 true ≥ 0) := by show ¬ ((-1 : Int) ≥ 0); decide
        refine ⟨fun m σ Hy => m = 0 ∧ σ = [some (.ref A.r), some (.ref A.f), some (.ref p), some x, some (.bl (decide (tk s1 true ≥ 0)))] ∧ Hy = Hx, ⟨0, rfl, rfl, rfl⟩, ?_⟩
        rintro m σ Hy ⟨rfl, rfl, rfl⟩
        rw [decide_eq_false hlow]
        walk_at "sy"
        exact ⟨s1, true, _, _, rfl, M1, (fun h => nomatch h), fun _ => hg2 rfl⟩
      | false =>
        obtain ⟨hs1, hgo⟩ := hg1 rfl
        refine ⟨fun m σ Hy => ∃ (s2 : S) (ag : Bool), σ = [some (.ref A.r), some (.ref A.f), some (.ref p), some x, some (.bl ag)] ∧ (ag = true → m = s2.t + 1 ∧ LAt ins H0 Hy A s2 (s2.t : Int) ∧ SOk b s2 ∧ ∀ o, TDo ins r s2 o → TDo ins r s1 o) ∧
          (ag = false → m = 0 ∧ ∃ over, TDo ins r s1 (s2, over) ∧ LAt ins H0 Hy A s2 (tk s2 over)), ⟨s1.t + 1, s1, true, ?_, fun _ => ⟨rfl, M1, hs1, fun o h => h⟩, fun h => nomatch h⟩, ?_⟩
        · have : tk s1 false ≥ 0 := by show (s1.t : Int) ≥ 0; omega
          rw [decide_eq_true this]
        rintro m σ Hy ⟨s2, ag, rfl, ha, hf⟩
        cases ag with
        | false =>
          obtain ⟨rfl, over, hT, M2⟩ := hf rfl
          walk_at "sy"
          refine ⟨s2, over, _, _, rfl, M2, fun e => ?_, fun e => ?_⟩
          · subst e
            exact ⟨hT.ok hs1 hokr, fun o h => hgo o (by rw [ed]; exact hT.then h)⟩
          · subst e
            exact hgo _ (by rw [ed]; exact hT.go)
        | true =>
          obtain ⟨rfl, M2, hs2, hT⟩ := ha rfl
          have hr2 := M2.r
          have hrowy := hrow.keep (Keep.of M2.own.same)
          walk_at "sy"
          refine ⟨_, fun σ' H' w => w, ?_⟩
          walk_at "sy"
          refine w_dputS hr2 (Nat.lt_of_le_of_lt (dl _ _) (by rw [sizeLine_eq]; decide)) rfl (fun H3 c3 => ?_)
          by_cases h0 : s2.t = 0
          · have e2 : (s2.t : Int) - 1 = -1 := by omega
            rw [e2] at c3
            have M3 : LAt ins H0 H3 A s2 (-1) := M2.chgR (s' := s2) (t' := -1) c3 rfl rfl
            have hr3 := M3.r
            have d6 := d4 s2 (-1)
            walk_at "sy"
            exact ⟨0, by omega, s2, false, rfl, (fun h => nomatch h), fun _ => ⟨rfl, true, hT _ (.inl ⟨h0, rfl⟩), M3⟩⟩
          · have ht : 0 < s2.t := by omega
            have e2 : (s2.t : Int) - 1 = ((s2.t - 1 : Nat) : Int) := by omega
            rw [e2] at c3
            have M3 : LAt ins H0 H3 A s2.tick (s2.tick.t : Int) := M2.chgR (s' := s2.tick) (t' := (s2.tick.t : Int)) c3 rfl rfl
            have hr3 := M3.r
            have hf3 := M3.f
            have d6 := d4 s2.tick (s2.tick.t : Int)
            have hpos : (0 : Int) ≤ (s2.tick.t : Int) := Int.natCast_nonneg _
            have hs3 := hs2.tick ht
            have hrow0 := hrow
            clear hrowy
            cases r with
            | set y a g c =>
              obtain ⟨px, vs, rfl, hpx, hvs⟩ := hrow
              obtain ⟨_, _, rfl, hw, hvs⟩ := hvs
              obtain rfl : _ = V.str "set" := hw
              obtain ⟨v1, _, rfl, h1, hvs⟩ := hvs
              obtain ⟨v2, _, rfl, h2, hvs⟩ := hvs
              obtain ⟨v3, _, rfl, h3, hvs⟩ := hvs
              obtain ⟨v4, _, rfl, h4, hvs⟩ := hvs
              obtain rfl : _ = _ := hvs
              have hpx3 := M3.own.same _ _ hpx
              walk_at "sy"
              refine ⟨ins, H0, A, s2.tick, (s2.tick.t : Int), .ref px, (.set y a g c), d, b - 1, rfl, M3, hrow0, rfl, hokr, by omega, hs3, fun H' M' => ?_⟩
              walk_at "sy"
              exact ⟨0, by omega, numR ins (.set y a g c) s2.tick, false, rfl, (fun h => nomatch h), fun _ => ⟨rfl, false, hT _ (.inr ⟨ht, .num rfl⟩), M'⟩⟩
            | ask y =>
              obtain ⟨px, vs, rfl, hpx, hvs⟩ := hrow
              obtain ⟨_, _, rfl, hw, hvs⟩ := hvs
              obtain rfl : _ = V.str "ask" := hw
              obtain ⟨v1, _, rfl, h1, hvs⟩ := hvs
              obtain rfl : _ = _ := hvs
              have hpx3 := M3.own.same _ _ hpx
              walk_at "sy"
              refine ⟨ins, H0, A, s2.tick, (s2.tick.t : Int), .ref px, (.ask y), d, b - 1, rfl, M3, hrow0, rfl, hokr, by omega, hs3, fun H' M' => ?_⟩
              walk_at "sy"
              exact ⟨0, by omega, numR ins (.ask y) s2.tick, false, rfl, (fun h => nomatch h), fun _ => ⟨rfl, false, hT _ (.inr ⟨ht, .num rfl⟩), M'⟩⟩
            | tell a =>
              obtain ⟨px, vs, rfl, hpx, hvs⟩ := hrow
              obtain ⟨_, _, rfl, hw, hvs⟩ := hvs
              obtain rfl : _ = V.str "tell" := hw
              obtain ⟨v1, _, rfl, h1, hvs⟩ := hvs
              obtain rfl : _ = _ := hvs
              have hpx3 := M3.own.same _ _ hpx
              walk_at "sy"
              refine ⟨ins, H0, A, s2.tick, (s2.tick.t : Int), .ref px, (.tell a), d, b - 1, rfl, M3, hrow0, rfl, hokr, by omega, hs3, fun H' M' => ?_⟩
              walk_at "sy"
              exact ⟨0, by omega, numR ins (.tell a) s2.tick, false, rfl, (fun h => nomatch h), fun _ => ⟨rfl, false, hT _ (.inr ⟨ht, .num rfl⟩), M'⟩⟩
            | iff a rs1 rs2 =>
              cases d with
              | zero => exact hokr.elim
              | succ d =>
                obtain ⟨px, vs, rfl, hpx, hvs⟩ := hrow
                obtain ⟨_, _, rfl, hw, hvs⟩ := hvs
                obtain rfl : _ = V.str "if" := hw
                obtain ⟨v1, _, rfl, h1, hvs⟩ := hvs
                obtain rfl := atV_of h1
                obtain ⟨_, _, rfl, ⟨q1, us1, rfl, hq1, hu1⟩, hvs⟩ := hvs
                obtain ⟨_, _, rfl, ⟨q2, us2, rfl, hq2, hu2⟩, hvs⟩ := hvs
                obtain rfl : _ = _ := hvs
                obtain ⟨_, _, _, ok1, ok2⟩ := hokr
                have hpx3 := M3.own.same _ _ hpx
                walk_at "sy"
                rename_i l H4 n4
                have M4 := M3.step n4.same
                refine ⟨A.f, a, s2.tick, rfl, n4.get hf3, ?_⟩
                walk_at "sy"
                by_cases hv : val s2.tick a = 0
                · refine ⟨l, _, _, .ref q2, rfl, rfl, SqL.of n4.at_, by simp [hv]; rfl, ?_⟩
                  walk_at "sy"
                  refine ⟨ins, H0, A, s2.tick, q2, us2, rs2, b, rfl, M4, hq2, hu2, ok2, hb, hs3.mono (Nat.sub_le _ _), fun s' over H' hg M' => ?_⟩
                  walk_at "sy"
                  exact ⟨0, by omega, s', false, rfl, (fun h => nomatch h), fun _ => ⟨rfl, over, hT _ (.inr ⟨ht, .iff (by rw [if_pos hv]; exact hg)⟩), M'⟩⟩
                · refine ⟨l, _, _, .ref q1, rfl, rfl, SqL.of n4.at_, by simp [hv]; rfl, ?_⟩
                  walk_at "sy"
                  refine ⟨ins, H0, A, s2.tick, q1, us1, rs1, b, rfl, M4, hq1, hu1, ok1, hb, hs3.mono (Nat.sub_le _ _), fun s' over H' hg M' => ?_⟩
                  walk_at "sy"
                  exact ⟨0, by omega, s', false, rfl, (fun h => nomatch h), fun _ => ⟨rfl, over, hT _ (.inr ⟨ht, .iff (by rw [if_neg hv]; exact hg)⟩), M'⟩⟩
            | whl a rs1 =>
              cases d with
              | zero => exact hokr.elim
              | succ d =>
                obtain ⟨px, vs, rfl, hpx, hvs⟩ := hrow
                obtain ⟨_, _, rfl, hw, hvs⟩ := hvs
                obtain rfl : _ = V.str "while" := hw
                obtain ⟨v1, _, rfl, h1, hvs⟩ := hvs
                obtain rfl := atV_of h1
                obtain ⟨_, _, rfl, ⟨q1, us1, rfl, hq1, hu1⟩, hvs⟩ := hvs
                obtain rfl : _ = _ := hvs
                have hokr' := hokr
                obtain ⟨_, _, ok1⟩ := hokr
                have hpx3 := M3.own.same _ _ hpx
                walk_at "sy"
                refine ⟨A.f, a, s2.tick, rfl, hf3, ?_⟩
                walk_at "sy"
                by_cases hv : val s2.tick a = 0
                · refine iteNF hv ?_
                  walk_at "sy"
                  exact ⟨0, by omega, s2.tick, false, rfl, (fun h => nomatch h), fun _ => ⟨rfl, false, hT _ (.inr ⟨ht, .whl0 hv⟩), M3⟩⟩
                · refine iteNT hv ?_
                  walk_at "sy"
                  refine ⟨ins, H0, A, s2.tick, q1, us1, rs1, b, rfl, M3, hq1, hu1, ok1, hb, hs3.mono (Nat.sub_le _ _), fun s' over H' hg M' => ?_⟩
                  have hr' := M'.r
                  have d7 := d4 s' (tk s' over)
                  walk_at "sy"
                  cases over with
                  | true =>
                    have e3 : decide (0 ≤ tk s' true) = false := rfl
                    rw [e3]
                    exact ⟨0, by omega, s', false, rfl, (fun h => nomatch h), fun _ => ⟨rfl, true, hT _ (.inr ⟨ht, .whlS hv hg⟩), M'⟩⟩
                  | false =>
                    have e3 : decide (0 ≤ tk s' false) = true := decide_eq_true (show (0 : Int) ≤ (s'.t : Int) by omega)
                    rw [e3]
                    have hle := hg.ticks
                    have hle : s'.t ≤ s2.t - 1 := hle
                    refine ⟨s'.t + 1, by omega, s', true, rfl, fun _ => ⟨rfl, M', (hg.ok hs3 ok1).mono (Nat.sub_le _ _), fun o h => hT o (.inr ⟨ht, ?_⟩)⟩, fun h => nomatch h⟩
                    rcases h with ⟨h1, rfl⟩ | ⟨h1, h2⟩
                    · exact .whlD hv hg h1
                    · exact .whlN hv hg h1 h2
    · rintro σ Hx ⟨s1, over, v3, v4, rfl, M1, hg1, hg2⟩
      walk_at "sy"
      cases over with
      | true => exact q s1 true Hx (hg2 rfl) M1
      | false =>
        obtain ⟨hs1, hgo⟩ := hg1 rfl
        rw [hul, List.drop_length] at hgo
        exact q s1 false Hx (hgo _ .nil) M1
theorem ok_l_walkN (T : Tx K mg) : FnOk P w K mg base CX0 3 T.f_l_walk T.d_l_walk ["_law_run", "_law_env", "_law_rows_here"] (fun _ _ _ _ => False) := T.F_l_walk.ok sc_l_walk (fun vs H Q E h => h.elim) (fun cdv A outer s H vs Q E hr h => h.elim)
theorem ok_l_walk (T : Tx K mg) : ∀ d : Nat, FnOk P w K mg base CX0 (d + 4) T.f_l_walk T.d_l_walk ["_law_run", "_law_env", "_law_rows_here"] (spWalk d)
  | 0 => ok_l_walkI (k := 0) (d := 0) T (ok_l_walkN T)
  | d + 1 => ok_l_walkI (k := d + 1) (d := d + 1) T (ok_l_walk T d)
end
local macro_rules | `(tactic| walk_at "use") => `(tactic| ((with_reducible apply use_SetRow); intro x dx H' n))
local macro_rules | `(tactic| walk_at "use") => `(tactic| ((with_reducible apply use_AskRow); intro x dx H' n))
local macro_rules | `(tactic| walk_at "use") => `(tactic| ((with_reducible apply use_TellRow); intro x dx H' n))
local macro_rules | `(tactic| walk_at "use") => `(tactic| ((with_reducible apply use_IfRow); (· exact rfl); (· walk_at "look"); (· exact rfl); (· walk_at "look"); intro x dx H' n))
local macro_rules | `(tactic| walk_at "use") => `(tactic| ((with_reducible apply use_WhileRow); (· exact rfl); (· walk_at "look"); intro x dx H' n))
local macro_rules | `(tactic| walk_at "use") => `(tactic| ((with_reducible apply use_Helper); (· exact rfl); (· walk_at "look"); (· exact rfl); (· walk_at "look"); intro x dx H' n))
local macro_rules | `(tactic| walk_at "use") => `(tactic| ((with_reducible apply use_Program); (· exact rfl); (· walk_at "look"); (· exact rfl); (· walk_at "look"); intro x dx H' n))
/-! ### the law's program -/
section
variable {P : Program} {w : World} {K : PySem.W.Frag} {mg : Str → Option Value} {base : Heap}
structure ToldAt (H : Hp) (p : Addr) (rs : List Nr) : Prop where
  h : ∃ (e hs h1 e2 rp : Addr) (us : List V), H p = some (.tup [.ref e, .ref hs]) ∧ H e = some (.tup []) ∧ H hs = some (.tup [.ref h1]) ∧ H h1 = some (.tup [.str "helper", .str "main", .ref e2, .non, .ref rp]) ∧ H e2 = some (.tup []) ∧ H rp = some (.tup us) ∧ IsDs H (toldNs rs) us
theorem ToldAt.keep {H H' : Hp} {p : Addr} {rs : List Nr} (k : Keep H H') (h : ToldAt H p rs) : ToldAt H' p rs := by
  obtain ⟨e, hs, h1, e2, rp, us, g1, g2, g3, g4, g5, g6, g7⟩ := h
  exact ⟨e, hs, h1, e2, rp, us, k _ _ g1 trivial, k _ _ g2 trivial, k _ _ g3 trivial, k _ _ g4 trivial, k _ _ g5 trivial, k _ _ g6 trivial, g7.keep k⟩
def spMade (T : Tx K mg) : Sp := fun vs H Q _ => ∃ (p : Addr) (rs : List Nr), vs = [.ref p] ∧ ToldAt H p rs ∧ rs.length ≤ 1000 ∧ (∀ r ∈ rs, okN 2 r) ∧ ∀ H' v hl, Same H H' → ProgAt T H' v hl rs → Q (.ref v) H'
theorem ok_l_made (T : Tx K mg) : FnOk P w K mg base CX0 13 T.f_l_made T.d_l_made ["_law_told"] (spMade T) := by
  refine T.F_l_made.ok sc_l_made (fun vs H Q E h => ?_) (fun cdv A_ outer s_ H vs Q E hr h => ?_)
  · obtain ⟨p, rs, rfl, _⟩ := h
    rfl
  · obtain ⟨p, rs, rfl, ⟨e, hs, h1, e2, rp, us, g1, g2, g3, g4, g5, g6, g7⟩, hl, hok, q⟩ := h
    refine ⟨_, (pss_cons (ps_setLc (i := 2) (own := [("_law_one", 1)]) (g := gName 1) (tt := tYes) rfl sc_l_made.nd rfl rfl (sw_true rfl rfl rfl (by decide +kernel)) (pi_tupK (K := K) rfl (pe_ix (ix_tupK (K := K) rfl) (pv 0) pe_int (fun _ _ => rfl))) (blkOk_by (own := [("_law_one", 1)]) (N := ["_law_told", "_law_one", "_law_records", "_law_helpers", "_law_rows_here", "_law_row"]) (sc := defScope s_l_made) (by decide +kernel)) (fun _ _ _ _ _ => pg_name (i := 1) sc_l_made.nd rfl (Or.inl rfl)) (fun _ _ _ _ _ => pts_nil) (fun _ _ _ _ _ => (pe_never)))
      (pss_cons (ps_set (i := 3) sc_l_made.nd rfl (Or.inl rfl) (pe_lst pa_nil))
      (pss_cons (ps_for PassesOwn.never rfl (pi_tupK (K := K) rfl (pe_ix (ix_tupK (K := K) rfl) (pv 0) pe_int (fun _ _ => rfl))) (pg_name (i := 1) sc_l_made.nd rfl (Or.inl rfl))
        (pss_cons (ps_set (i := 4) sc_l_made.nd rfl (Or.inl rfl) (pe_callTy (tuple_ofK (K := K) rfl) (by rfl) T.n_tuple PyProof.Rows.boot_tuple (pa_cons (pe_lc (own := [("_law_row", 5)]) (g := gName 5) (tt := tYes) rfl sc_l_made.nd (pi_tupK (K := K) rfl (pe_ix (ix_tupK (K := K) rfl) (pv 1) pe_int (fun _ _ => rfl))) (blkOk_by (own := [("_law_row", 5)]) (N := ["_law_told", "_law_one", "_law_records", "_law_helpers", "_law_rows_here", "_law_row"]) (sc := defScope s_l_made) (by decide +kernel)) (fun _ _ _ _ _ => pg_name (i := 5) sc_l_made.nd rfl (Or.inl rfl)) (fun _ _ _ _ _ => pts_nil) (fun _ _ _ _ _ => (pe_call (ok_row_of T 2) (hr.mono (by omega)) rfl T.m_row_of T.F_row_of.kp T.B_row_of .nil pass0 (pa_cons (pv 5) pa_nil)))) pa_nil)))
        (pss_one (ps_expr (pe_bm PySem.F.plainAttrs_list PySem.F.slot_list_append PySem.F.type_list_append mt_append (pv 3) (pa_cons (pe_make T.Mk_Helper (ok_Helper_init T) (hr.mono (by omega)) rfl T.c_Helper T.B_Helper_init .nil pass0 (pa_cons (pe_ix (ix_tupK (K := K) rfl) (pv 1) pe_int (fun _ _ => rfl)) (pa_cons (pe_ix (ix_tupK (K := K) rfl) (pv 1) pe_int (fun _ _ => rfl)) (pa_cons (pe_ix (ix_tupK (K := K) rfl) (pv 1) pe_int (fun _ _ => rfl)) (pa_cons (pv 4) pa_nil))))) pa_nil))))))
      (pss_one (ps_ret (pe_make T.Mk_Program (ok_Program_init T) (hr.mono (by omega)) rfl T.c_Program T.B_Program_init .nil pass0 (pa_cons (pe_callTy (tuple_ofK (K := K) rfl) (by rfl) T.n_tuple PyProof.Rows.boot_tuple (pa_cons (pv 2) pa_nil)) (pa_cons (pe_callTy (tuple_ofK (K := K) rfl) (by rfl) T.n_tuple PyProof.Rows.boot_tuple (pa_cons (pv 3) pa_nil)) pa_nil)))))))), ?_⟩
    have hul : us.length = rs.length := by rw [g7.len, toldNs_len]
    walk_at "sy"
    refine k_lcT [] (fun D i Hy => Same H Hy ∧ Hy D = some (.lst [])) (fun D Hy n => ⟨n.same, n.at_⟩) (fun D i Hy _ h => SqT.of (h.1 _ _ g2)) (fun D hD i x Hy hx => by simp at hx) ?_
    rintro D hD Hy ⟨sy, hDy⟩
    have g1y := sy _ _ g1
    have g3y := sy _ _ g3
    walk_at "sy"
    rename_i L H1 n1
    have s1 : Same H H1 := sy.trans n1.same
    have fL : H L = none := sy.free n1.free
    refine k_forT [.ref h1] (fun i σ Hx => ∃ (v1 v4 v5 : Option V), σ = [some (.ref p), v1, some (.ref D), some (.ref L), v4, v5] ∧ Same H Hx ∧ Hx D = some (.lst []) ∧ (i = 0 → Hx L = some (.lst [])) ∧
      (i = 1 → ∃ (hl dh q : Addr) (pv : V) (ws : List V), Hx L = some (.lst [.ref hl]) ∧ Hx hl = some (.ins T.a_Helper dh (fsHelper (.str "main") pv .non (.ref q))) ∧ Hx q = some (.tup ws) ∧ RowsAt T Hx rs ws)) ⟨none, none, none, rfl, s1, n1.get hDy, fun _ => n1.at_, fun h => absurd h (by decide)⟩ (fun i σ Hx _ h => ?_) ?_ ?_
    · obtain ⟨v1, v4, v5, rfl, sx, _⟩ := h
      exact SqT.of (sx _ _ g3)
    · rintro i x σ Hx hx ⟨v1, v4, v5, rfl, sx, hDx, hc, _⟩
      have hi := (List.getElem?_eq_some_iff.mp hx).1
      obtain rfl : i = 0 := by simpa using hi
      cases hx
      have hLx := hc rfl
      have g4x := sx _ _ g4
      have g5x := sx _ _ g5
      have g6x := sx _ _ g6
      have g7x := g7.keep (Keep.of sx)
      walk_at "sy"
      refine k_lcT us (fun D2 j Hy => Same Hx Hy ∧ ∃ ws, Hy D2 = some (.lst ws) ∧ RowsAt T Hy (rs.take j) ws ∧ ws.length = j) (fun D2 Hy n => ⟨n.same, [], n.at_, rfl, rfl⟩) (fun D2 j Hy _ h => SqT.of (h.1 _ _ g6x)) ?_ ?_
      · rintro D2 hD2 j x Hy hx ⟨sy2, ws, hDy2, hws, hwl⟩
        obtain ⟨dd, hd1, hd2⟩ := g7x.at hx
        obtain ⟨r, hr1, rfl⟩ := told_at hd1
        have hj := (List.getElem?_eq_some_iff.mp hx).1
        have hwl2 : ws.length ≤ 1000 := by omega
        walk_at "sy"
        refine ⟨x, r, rfl, hd2.keep (Keep.of sy2), rfl, hok r (List.mem_of_getElem? hr1), fun H2 v2 s2 hv => ?_⟩
        have hD3 := s2 _ _ hDy2
        walk_at "sy"
        rename_i H4 c4
        refine ⟨c4.sameOwn (sy2.trans s2) hD2, ws ++ [v2], c4.at_, ?_, by simp [hwl]⟩
        rw [take_snoc hr1]
        exact RowsAt.snoc (hv.keep c4.keepL) ((hws.keep (Keep.of s2)).keep c4.keepL)
      · rintro D2 hD2 Hy ⟨sy2, ws, hDy2, hws, hwl⟩
        rw [hul, List.take_length] at hws
        have hLy := sy2 _ _ hLx
        have g4y := sy2 _ _ g4x
        have g5y := sy2 _ _ g5x
        have hDDy := sy2 _ _ hDx
        walk_at "sy"
        rename_i t z H3 n3 hl dh H4 n4 H5 c5
        have k35 : Keep H3 H5 := n4.keep.trans c5.keepL
        refine ⟨_, _, _, rfl, c5.sameOwn (sx.trans (sy2.trans (n3.same.trans n4.same))) fL, c5.get (n4.get (n3.get hDDy)) ?_, fun h => absurd h (by decide), fun _ => ⟨hl, dh, t, .ref e2, ws, c5.at_, c5.getK n4.at_ rfl, k35 _ _ n3.at_ trivial, (hws.keep n3.keep).keep k35⟩⟩
        exact n1.ne hDy |>.symm
    · rintro σ Hx ⟨v1, v4, v5, rfl, sx, hDx, _, hc⟩
      obtain ⟨hl, dh, qr, pv, ws, hLx, hhl, hqr, hws⟩ := hc rfl
      walk_at "sy"
      rename_i rt z1 H3 n3 ht z2 H4 n4 v dv H5 n5
      have k35 : Keep Hx H5 := n3.keep.trans (n4.keep.trans n5.keep)
      exact q H5 v hl (sx.trans (n3.same.trans (n4.same.trans n5.same))) ⟨⟨dv, rt, ht, n5.at_, n5.get (n4.get n3.at_), n5.get n4.at_⟩, ⟨dh, qr, pv, ws, k35 _ _ hhl trivial, k35 _ _ hqr trivial, hws.keep k35⟩⟩
end
local macro_rules | `(tactic| walk_at "sy1") => `(tactic| first
  | with_reducible refine w_seq ?_
  | with_reducible refine w_asg ?_
  | ((with_reducible apply w_var); (· exact rfl))
  | with_reducible refine w_C ?_
  | ((with_reducible refine w_name ?_); intro σ' e; (first | dsimp only [List.set] at e | dsimp only [L2.start, L2.wipe, List.map, List.length_cons, List.length_nil, Nat.reduceAdd, Nat.reduceSub, List.replicate, List.cons_append, List.nil_append, List.append, List.set] at e); subst e)
  | with_reducible refine w_cons ?_
  | with_reducible refine w_nil ?_
  | with_reducible refine w_op ?_
  | with_reducible refine w_rI0 ?_
  | ((with_reducible apply w_rI); (· walk_at "ci"))
  | with_reducible refine w_call ?_
  | with_reducible refine w_ifS ?_
  | with_reducible refine w_tup ?_
  | with_reducible refine w_lst ?_
  | ((with_reducible apply w_newT); (· walk_at "sz"); intro p H' n)
  | ((with_reducible apply w_newL); (· walk_at "sz"); intro p H' n)
  | with_reducible refine w_test ?_
  | with_reducible refine w_tB ?_
  | with_reducible refine w_rEqI ?_
  | with_reducible refine w_rEqS ?_
  | with_reducible refine w_rNeI ?_
  | with_reducible refine w_rNeS ?_
  | with_reducible refine w_blB ?_
  | with_reducible refine iteDT rfl ?_
  | ((with_reducible apply iteDT); (· (first | omega | assumption)))
  | ((with_reducible apply iteDF); (· (first | omega | assumption | exact (fun h => V.noConfusion h) | (with_reducible exact (by decide +kernel)))))
  | ((with_reducible apply iteBT); (· (first | exact rfl | assumption | decide +kernel)))
  | ((with_reducible apply iteBF); (· (first | exact rfl | assumption | decide +kernel)))
  | ((with_reducible apply iteNF); (· (first | exact rfl | omega | assumption)))
  | ((with_reducible apply iteNT); (· (first | omega | assumption | exact (fun h => V.noConfusion h))))
  | with_reducible refine w_next ?_
  | ((with_reducible apply w_ixT); (· walk_at "look"); (· walk_at "at"))
  | ((with_reducible apply w_ixL); (· walk_at "look"); (· walk_at "at"))
  | with_reducible refine w_cb ?_
  | ((with_reducible apply w_lenT); (· walk_at "look"))
  | ((with_reducible apply w_lenL); (· walk_at "look"))
  | with_reducible refine w_bm ?_
  | with_reducible refine w_bm0 ?_
  | ((with_reducible apply w_tyL); (· walk_at "look"))
  | ((with_reducible apply w_append); (· walk_at "look"); (· walk_at "sz"); intro H' c)
  | ((with_reducible apply w_setL); (· walk_at "look"); (· walk_at "at"); intro H' c)
  | with_reducible refine w_ret ?_
  | with_reducible refine w_retN ?_
  | with_reducible refine w_rt ?_
  | with_reducible refine w_break ?_
  | with_reducible refine w_cont ?_
  | with_reducible refine w_drop ?_
  | with_reducible refine w_if ?_
  | with_reducible refine w_and ?_
  | with_reducible refine w_or ?_
  | with_reducible refine w_not ?_
  | with_reducible refine w_andV ?_
  | with_reducible refine w_orV ?_
  | with_reducible refine w_notV ?_
  | with_reducible refine w_isN ?_
  | with_reducible refine w_notN ?_
  | with_reducible refine w_un ?_
  | with_reducible refine w_rU ?_
  | with_reducible refine w_fld ?_
  | ((with_reducible apply w_fld1); (· walk_at "look"); (· assumption); (· assumption); (· exact rfl))
  | with_reducible refine w_par ?_
  | with_reducible refine w_par1 ?_
  | ((with_reducible apply w_aug); (· exact rfl))
  | with_reducible refine w_for ?_
  | with_reducible refine w_iTup ?_
  | with_reducible refine w_iList ?_
  | ((with_reducible apply w_forT); (· walk_at "look"))
  | ((with_reducible apply w_forL); (· walk_at "look"))
  | ((with_reducible apply w_inT); (· walk_at "look"); (· exact rfl); (· exact rfl))
  | ((with_reducible apply w_inL); (· walk_at "look"); (· exact rfl); (· exact rfl))
  | with_reducible refine w_lc ?_
  | ((with_reducible apply w_wipe); (· exact rfl))
  | with_reducible refine w_yes ?_
  | ((with_reducible apply w_acc); (· walk_at "look"); (· walk_at "sz"); intro H' c)
  | with_reducible refine w_rng1 ?_
  | with_reducible refine w_rng2 ?_
  | ((with_reducible apply w_rng1a); (· omega); (· omega))
  | ((with_reducible apply w_rng2a); (· omega); (· omega); (· omega); (· omega))
  | ((with_reducible apply w_gTup); (· walk_at "look"); (· exact rfl))
  | with_reducible refine w_gCons ?_
  | with_reducible refine w_gNil ?_
  | ((with_reducible apply w_cat); (· walk_at "look"); (· walk_at "look"); (· walk_at "sz"); intro p H' n)
  | ((with_reducible apply w_rep); (· walk_at "look"); (· omega); (· omega); (· walk_at "sz"); intro p H' n)
  | with_reducible refine w_zipA ?_
  | ((with_reducible apply w_zipT); (· walk_at "look"); (· walk_at "look"))
  | with_reducible refine w_meth ?_
  | ((with_reducible apply w_meth1); (· walk_at "look"); (· exact rfl))
  | ((with_reducible apply w_tupOfL); (· walk_at "look"))
  | ((with_reducible apply w_tupOfT); (· walk_at "look"))
  | with_reducible refine w_intB ?_
  | with_reducible refine w_intI ?_
  | with_reducible refine w_sl ?_
  | with_reducible refine w_part ?_
  | with_reducible refine w_part1 ?_
  | with_reducible refine w_nopart ?_
  | ((with_reducible apply w_slL); (· walk_at "look"); intro p H' n)
  | ((with_reducible apply w_isi); (· walk_at "ty"); (· exact rfl))
  | ((with_reducible apply w_all); (· walk_at "look"))
  | with_reducible refine w_sfld ?_
  | ((with_reducible apply w_kset); (· walk_at "look"); (· assumption); (· assumption); (· first | exact (by decide : 0 < 1000) | exact (by decide : 1 < 1000) | exact (by decide : 2 < 1000) | exact (by decide : 3 < 1000) | exact (by decide : 4 < 1000) | exact (by decide : 5 < 1000) | exact (by decide : 6 < 1000) | exact (by decide : 12 < 1000) | exact (by decide : 7 < 1000) | exact (by decide : 8 < 1000) | exact (by decide : 9 < 1000) | exact (by decide : 10 < 1000) | exact (by decide : 11 < 1000)); intro H' c)
  | with_reducible refine w_make ?_
  | ((with_reducible apply w_isiO); (· walk_at "look"); (· assumption); (· assumption); (· assumption); (· assumption); (· assumption); (· walk_at "isij"))
  | with_reducible refine w_strS ?_
  | ((with_reducible apply w_strI); (· first | assumption | decide))
  | with_reducible refine w_m1 ?_
  | with_reducible refine w_m1a ?_
  | ((with_reducible apply w_addS); (· first | assumption | walk_at "sz"))
  | with_reducible refine w_gSub ?_
  | ((with_reducible intro l hl); generalize hX : upd _ l _ = H'; have n := newOf hl hX; clear hX)
  | walk_at "use")
/-! ### the law -/
section
variable {P : Program} {w : World} {K : PySem.W.Frag} {mg : Str → Option Value} {base : Heap}
theorem ok_l_rowsA (T : Tx K mg) : FnOk P w K mg base CX0 6 T.f_l_rows T.d_l_rows ["_law_script", "_law_tape", "_law_deep", "_law_most"] (fun vs H Q E => ∃ d, d ≤ 2 ∧ spRowsD K d vs H Q E) :=
  ⟨fun vs H Q E ⟨d, _, h⟩ => (ok_l_rows (P := P) (w := w) (base := base) T d).len _ _ _ _ h, fun A outer s H args us vs Q E hr he hb hv ⟨d, hd, h⟩ => (ok_l_rows T d).run A outer s H args us vs Q E (hr.mono (by omega)) he hb hv h⟩
theorem sameB {H Hx Hy : Hp} {tp : Addr} (s : Same H Hx) (b : SameBut tp Hx Hy) (f : H tp = none) : Same H Hy := fun p o e => b _ _ (s _ _ e) (ne_of_none e f)
theorem keepT {Hx Hy : Hp} {tp : Addr} {xs : List V} (b : SameBut tp Hx Hy) (h : Hx tp = some (.lst xs)) : Keep Hx Hy := fun p o e st => b p o e (fun z => by rw [z, h] at e; cases e; exact st)
theorem RowsD.up {H : Hp} {d e n m : Nat} {v : V} {rs : List Nr} (h : RowsD H d n v rs) (l : d ≤ e) (l2 : n ≤ m) : RowsD H e m v rs := by
  obtain ⟨q, us, e1, h1, h2, h3, h4⟩ := h
  exact ⟨q, us, e1, h1, h2, Nat.le_trans h3 l2, fun r m => okN_le (h4 r m) l⟩
theorem catR {H : Hp} {Q : VK} {d n1 n2 : Nat} {v1 v2 : V} {rs1 rs2 : List Nr} (h1 : RowsD H d n1 v1 rs1) (h2 : RowsD H d n2 v2 rs2) (hn : n1 + n2 ≤ 1000) (k : ∀ (H' : Hp) (v : V), Same H H' → RowsD H' d (n1 + n2) v (rs1 ++ rs2) → Q v H') : rCatA K v1 v2 H Q := by
  obtain ⟨q1, us1, rfl, a1, a2, a3, a4⟩ := h1
  obtain ⟨q2, us2, rfl, b1, b2, b3, b4⟩ := h2
  have l1 := a2.len
  have l2 := b2.len
  rw [toldNs_len] at l1 l2
  have hz := sizeLine_eq
  refine catT a1 b1 (by omega) (fun H' r s h => k H' _ s ⟨r, _, rfl, h, ?_, by rw [List.length_append]; omega, fun x hx => ?_⟩)
  · rw [toldNs_eq, List.map_append, ← toldNs_eq, ← toldNs_eq]
    exact IsDs.app (a2.keep (Keep.of s)) (b2.keep (Keep.of s))
  · rcases List.mem_append.mp hx with hx | hx
    · exact a4 x hx
    · exact b4 x hx
theorem k_lcS {z : Str} {g : TG} {tt : TT} {te : TE} {vs : List Nat} {σ : L2.St} {H : Hp} {Q : VK} (Pv : Addr → Nat → Hp → Prop) (h0 : ∀ D H', New D (.lst []) H H' → Pv D 0 H')
    (hs : ∀ D, H D = none → ∀ i c H2, z.cps[i]? = some c → Pv D i H2 → kTurn g tt te vs σ D (.str ⟨#[c]⟩) H2 (Pv D (i + 1))) (hd : ∀ D, H D = none → ∀ H2, Pv D z.cps.size H2 → Q (.ref D) H2) : kLc (Its z) g tt te vs σ H Q := by
  intro D hD
  refine ⟨fun i m H2 => m = z.cps.size - i ∧ i ≤ z.cps.size ∧ Pv D i H2, ⟨z.cps.size, by simp, Nat.zero_le _, h0 D _ (New.mk' hD)⟩, ?_⟩
  rintro i m H2 ⟨rfl, hi, p⟩
  by_cases hlt : i < z.cps.size
  · refine .inr ⟨hlt, Pv D (i + 1), fun H' p' => ⟨z.cps.size - (i + 1), by omega, rfl, hlt, p'⟩, fun v H' y => ?_⟩
    obtain ⟨rfl, c, hc, rfl⟩ := y
    exact hs D hD i c _ hc p
  · have e : i = z.cps.size := by omega
    subst e
    exact .inl ⟨Nat.le_refl _, hd D hD H2 p⟩
theorem dpts_ints : ∀ l : List Int, dpts (l.map Dt.int) = 0
  | [] => rfl
  | i :: l => by
    show max 0 (dpts (l.map Dt.int)) = 0
    rw [dpts_ints l]
    rfl
theorem small_ints : ∀ l : List Int, smallDs (l.map Dt.int)
  | [] => trivial
  | i :: l => ⟨trivial, small_ints l⟩
theorem isDs_ints {H : Hp} : ∀ l : List Int, IsDs H (l.map Dt.int) (l.map V.int)
  | [] => rfl
  | i :: l => ⟨_, _, rfl, rfl, isDs_ints l⟩
theorem ok_law (T : Tx K mg) : FnOk P w K mg base CX0 40 T.f_law T.d_law ["_law_script"] (spLaw K) := by
  refine T.F_law.ok sc_law (fun vs H Q E h => ?_) (fun cdv A_ outer s_ H vs Q E hr h => ?_)
  · obtain ⟨a, ns, rfl, _⟩ := h
    rfl
  · obtain ⟨a, ns, rfl, hS, _, q⟩ := h
    have hu := hu_of hr
    refine ⟨_, (pss_cons (ps_set (i := 1) sc_law.nd rfl (Or.inr rfl) (pe_lst (pa_cons pe_int pa_nil)))
      (pss_cons (ps_set (i := 2) sc_law.nd rfl (Or.inl rfl) (pe_op (catAK (K := K) rfl) (pe_op (catAK (K := K) rfl) (pe_call (ok_l_rowsA T) (hr.mono (by omega)) rfl T.m_l_rows T.F_l_rows.kp T.B_l_rows .nil pass0 (pa_cons (pv 0) (pa_cons (pv 1) (pa_cons pe_int (pa_cons pe_int pa_nil))))) (pe_call (ok_l_rowsA T) (hr.mono (by omega)) rfl T.m_l_rows T.F_l_rows.kp T.B_l_rows .nil pass0 (pa_cons (pv 0) (pa_cons (pv 1) (pa_cons pe_int (pa_cons pe_int pa_nil)))))) (pe_call (ok_l_rowsA T) (hr.mono (by omega)) rfl T.m_l_rows T.F_l_rows.kp T.B_l_rows .nil pass0 (pa_cons (pv 0) (pa_cons (pv 1) (pa_cons pe_int (pa_cons pe_int pa_nil)))))))
      (pss_cons (ps_set (i := 3) sc_law.nd rfl (Or.inl rfl) (pe_op (catAK (K := K) rfl) (pe_call (ok_l_rowsA T) (hr.mono (by omega)) rfl T.m_l_rows T.F_l_rows.kp T.B_l_rows .nil pass0 (pa_cons (pv 0) (pa_cons (pv 1) (pa_cons pe_int (pa_cons pe_int pa_nil))))) (pe_tup (pa_cons (pe_tup (pa_cons pe_str (pa_cons pe_str (pa_cons pe_str (pa_cons pe_str (pa_cons pe_int pa_nil)))))) pa_nil))))
      (pss_cons (ps_set (i := 2) sc_law.nd rfl (Or.inl rfl) (pe_op (catAK (K := K) rfl) (pv 2) (pe_tup (pa_cons (pe_tup (pa_cons pe_str (pa_cons pe_str (pa_cons (pe_call (ok_l_draw T) (hr.mono (by omega)) rfl T.m_l_draw T.F_l_draw.kp T.B_l_draw .nil pass0 (pa_cons (pv 0) (pa_cons (pv 1) (pa_cons pe_int pa_nil)))) (pa_cons pe_str (pa_cons pe_int pa_nil)))))) (pa_cons (pe_tup (pa_cons pe_str (pa_cons pe_str (pa_cons (pv 3) pa_nil)))) pa_nil)))))
      (pss_cons (ps_set (i := 2) sc_law.nd rfl (Or.inl rfl) (pe_op (catAK (K := K) rfl) (pv 2) (pe_tup (pa_cons (pe_tup (pa_cons pe_str (pa_cons pe_str pa_nil))) (pa_cons (pe_tup (pa_cons pe_str (pa_cons pe_str pa_nil))) (pa_cons (pe_tup (pa_cons pe_str (pa_cons pe_str pa_nil))) pa_nil))))))
      (pss_cons (ps_set (i := 2) sc_law.nd rfl (Or.inl rfl) (pe_op (catAK (K := K) rfl) (pe_tup (pa_cons (pe_tup (pa_cons pe_str (pa_cons pe_int (pa_cons (pe_callTy (tuple_ofK (K := K) rfl) (by rfl) T.n_tuple PyProof.Rows.boot_tuple (pa_cons (pe_lc (own := [("_law_one", 13)]) (g := gName 13) (tt := tYes) rfl sc_law.nd (pi_str pe_str) (blkOk_by (own := [("_law_one", 13)]) (N := ["_law_script", "_law_tape", "_law_rows_here", "_law_inner", "_law_told", "_law_inputs", "_law_ticks", "_law_run", "_law_due", "_law_program", "_law_turn", "_law_found", "_law_k", "_law_one"]) (sc := defScope s_law) (by decide +kernel)) (fun _ _ _ _ _ => pg_name (i := 13) sc_law.nd rfl (Or.inl rfl)) (fun _ _ _ _ _ => pts_nil) (fun _ _ _ _ _ => (pe_tup (pa_cons pe_str (pa_cons (pv 13) (pa_cons pe_int (pa_cons pe_str (pa_cons pe_int pa_nil)))))))) pa_nil)) (pa_cons (pe_tup pa_nil) pa_nil))))) pa_nil)) (pv 2)))
      (pss_cons (ps_set (i := 4) sc_law.nd rfl (Or.inl rfl) (pe_tup (pa_cons (pe_tup pa_nil) (pa_cons (pe_tup (pa_cons (pe_tup (pa_cons pe_str (pa_cons pe_str (pa_cons (pe_tup pa_nil) (pa_cons pe_non (pa_cons (pv 2) pa_nil)))))) pa_nil)) pa_nil))))
      (pss_cons (ps_setLc (i := 5) (own := [("_law_k", 12)]) (g := gName 12) (tt := tYes) rfl sc_law.nd rfl rfl (sw_true rfl rfl rfl (by decide +kernel)) (pi_range1 rfl T.n_range (pa_cons (pe_call (ok_l_draw T) (hr.mono (by omega)) rfl T.m_l_draw T.F_l_draw.kp T.B_l_draw .nil pass0 (pa_cons (pv 0) (pa_cons (pv 1) (pa_cons pe_int pa_nil)))) pa_nil)) (blkOk_by (own := [("_law_k", 12)]) (N := ["_law_script", "_law_tape", "_law_rows_here", "_law_inner", "_law_told", "_law_inputs", "_law_ticks", "_law_run", "_law_due", "_law_program", "_law_turn", "_law_found", "_law_k", "_law_one"]) (sc := defScope s_law) (by decide +kernel)) (fun _ _ _ _ _ => pg_name (i := 12) sc_law.nd rfl (Or.inl rfl)) (fun _ _ _ _ _ => pts_nil) (fun _ _ _ _ _ => (pe_op op_sub (pe_call (ok_l_draw T) (hr.mono (by omega)) rfl T.m_l_draw T.F_l_draw.kp T.B_l_draw .nil pass0 (pa_cons (pv 0) (pa_cons (pv 1) (pa_cons pe_int pa_nil)))) pe_int)))
      (pss_cons (ps_set (i := 6) sc_law.nd rfl (Or.inl rfl) (pe_call (ok_l_pick T) (hr.mono (by omega)) rfl T.m_l_pick T.F_l_pick.kp T.B_l_pick .nil pass0 (pa_cons (pv 0) (pa_cons (pv 1) (pa_cons (pe_lst (pa_cons (pe_call (ok_l_draw T) (hr.mono (by omega)) rfl T.m_l_draw T.F_l_draw.kp T.B_l_draw .nil pass0 (pa_cons (pv 0) (pa_cons (pv 1) (pa_cons pe_int pa_nil)))) (pa_cons (pe_call (ok_l_draw T) (hr.mono (by omega)) rfl T.m_l_draw T.F_l_draw.kp T.B_l_draw .nil pass0 (pa_cons (pv 0) (pa_cons (pv 1) (pa_cons pe_int pa_nil)))) (pa_cons pe_int pa_nil)))) pa_nil)))))
      (pss_cons (ps_set (i := 7) sc_law.nd rfl (Or.inl rfl) (pe_disp (pps_cons pe_str (pv 6) (pps_cons pe_str (pe_lst pa_nil) (pps_cons pe_str (pv 5) (pps_cons pe_str pe_int pps_nil)))) (by rfl) (by rfl) (fun z => by cases z) (by decide)))
      (pss_cons (ps_expr (pe_call (ok_l_walk T 2) (hr.mono (by omega)) rfl T.m_l_walk T.F_l_walk.kp T.B_l_walk .nil pass0 (pa_cons (pv 7) (pa_cons pe_dnewK (pa_cons (pv 2) pa_nil)))))
      (pss_cons (ps_set (i := 8) sc_law.nd rfl (Or.inl rfl) (pe_tup (pa_cons (pe_callTy (tuple_ofK (K := K) rfl) (by rfl) T.n_tuple PyProof.Rows.boot_tuple (pa_cons (pe_dget hu (pv 7) pe_str (fun _ _ => rfl)) pa_nil)) (pa_cons (pe_ix (ix_listK (K := K) rfl) (pe_lst (pa_cons pe_str (pa_cons pe_str pa_nil))) (pe_callTy call_int1 (by rfl) T.n_int PyProof.Rows.boot_int (pa_cons (pe_cmpR op_lt (pe_dget hu (pv 7) pe_str (fun _ _ => rfl)) pe_int (nomark _)) pa_nil)) (fun _ _ => rfl)) pa_nil))))
      (pss_cons (ps_set (i := 9) sc_law.nd rfl (Or.inl rfl) (pe_call (ok_l_made T) (hr.mono (by omega)) rfl T.m_l_made T.F_l_made.kp T.B_l_made .nil pass0 (pa_cons (pv 4) pa_nil)))
      (pss_cons (ps_for PassesOwn.never rfl (pi_range1 rfl T.n_range (pa_cons pe_int pa_nil)) (pg_name (i := 10) sc_law.nd rfl (Or.inl rfl))
        (pss_cons (ps_set (i := 11) sc_law.nd rfl (Or.inl rfl) (pe_call (ok_told_of T) (hr.mono (by omega)) rfl T.m_told_of T.F_told_of.kp T.B_told_of .nil pass0 (pa_cons (pv 9) (pa_cons (pv 5) (pa_cons (pv 6) pa_nil)))))
        (pss_cons (ps_if (PW.pt (pw_or (pt_not (pt_val (pe_callB (isiK (K := K) rfl) (by rfl) T.n_isinstance PyProof.Rows.boot_isinstance (pa_cons (pv 11) (pa_cons (pe_bltn (v := .ty "tuple") (by rfl) T.n_tuple PyProof.Rows.boot_tuple rfl) pa_nil))))) (pw_or (pt_cmpR op_ne (pe_callB (len_seqK (K := K) rfl) (by rfl) T.n_len PySem.boot_len (pa_cons (pv 11) pa_nil)) pe_int (nomark _)) (pw_or1 (pt_not (pt_val (pe_callB (isiK (K := K) rfl) (by rfl) T.n_isinstance PyProof.Rows.boot_isinstance (pa_cons (pe_ix (ix_tupK (K := K) rfl) (pv 11) pe_int (fun _ _ => rfl)) (pa_cons (pe_bltn (v := .ty "list") (by rfl) T.n_list PyProof.Rows.boot_list rfl) pa_nil)))))))))
          (pss_one (ps_ret pe_bl))
          pss_nil)
        (pss_cons (ps_if (pt_not (pt_val (pe_call (ok_l_alike T 4) (hr.mono (by omega)) rfl T.m_l_alike T.F_l_alike.kp T.B_l_alike .nil pass0 (pa_cons (pe_tup (pa_cons (pe_callTy (tuple_ofK (K := K) rfl) (by rfl) T.n_tuple PyProof.Rows.boot_tuple (pa_cons (pe_ix (ix_tupK (K := K) rfl) (pv 11) pe_int (fun _ _ => rfl)) pa_nil)) (pa_cons (pe_ix (ix_tupK (K := K) rfl) (pv 11) pe_int (fun _ _ => rfl)) pa_nil))) (pa_cons (pv 8) pa_nil)))))
          (pss_one (ps_ret pe_bl))
          pss_nil)
        (pss_one (ps_expr (pe_bm PySem.F.plainAttrs_list PySem.F.slot_list_append PySem.F.type_list_append mt_append (pe_ix (ix_tupK (K := K) rfl) (pv 11) pe_int (fun _ _ => rfl)) (pa_cons pe_int pa_nil))))))))
      (pss_one (ps_ret (pe_cmpR op_eq (pe_meth0 (pe_call (ok_world_of T) (hr.mono (by omega)) rfl T.m_world_of T.F_world_of.kp T.B_world_of .nil pass0 (pa_cons (pv 9) (pa_cons (pv 5) (pa_cons (pv 6) pa_nil)))) T.cl_World T.M_World_many (ok_World_many T) (hr.mono (by omega)) T.B_World_many .nil pass0) pe_int (nomark _)))))))))))))))))), ?_⟩
    walk_at "sy"
    rename_i tp H1 n1
    have fT := n1.free
    have st : ∀ {Hx : Hp}, Same H Hx → Stays K Hx tp a (ns.map V.int) := fun s => Stays.of hS s fT
    refine ⟨0, by decide, a, tp, ns, 0, 9, rfl, by decide, by decide, by decide, st n1.same, n1.at_, by simp [cst], fun H2 v2 k2 r2 h2 hk2 t2 b2 => ?_⟩
    simp only [cst] at hk2
    have s2 := sameB n1.same b2 fT
    walk_at "sy"
    refine ⟨2, by decide, a, tp, ns, k2, 2, rfl, by decide, by decide, by decide, st s2, t2, by simp [cst]; omega, fun H3 v3 k3 r3 h3 hk3 t3 b3 => ?_⟩
    simp only [cst] at hk3
    have s3 := sameB s2 b3 fT
    walk_at "sy"
    refine catR ((h2.keep (keepT b3 t2)).up (e := 2) (m := 18) (by decide) (by decide)) (h3.up (e := 2) (m := 4) (by decide) (by decide)) (by decide) (fun H4 v4 z4 h4 => ?_)
    have s4 := s3.trans z4
    walk_at "sy"
    refine ⟨0, by decide, a, tp, ns, k3, 5, rfl, by decide, by decide, by decide, st s4, z4 _ _ t3, by simp [cst]; omega, fun H5 v5 k5 r5 h5 hk5 t5 b5 => ?_⟩
    simp only [cst] at hk5
    have s5 := sameB s4 b5 fT
    walk_at "sy"
    refine catR (h4.keep (keepT b5 (z4 _ _ t3))) (h5.up (e := 2) (m := 10) (by decide) (by decide)) (by decide) (fun H6 v6 z6 h6 => ?_)
    have s6 := s5.trans z6
    have t6 := z6 _ _ t5
    walk_at "sy"
    refine ⟨1, by decide, a, tp, ns, k5, 4, rfl, by decide, by decide, by decide, st s6, t6, by simp [cst]; omega, fun H7 v7 k7 r7 h7 hk7 t7 b7 => ?_⟩
    simp only [cst] at hk7
    have s7 := sameB s6 b7 fT
    have h6 := h6.keep (keepT b7 t6)
    walk_at "sy"
    rename_i p8 H8 n8 p9 H9 n9
    have okset : ∀ (d' : Nat) (x : Str) (a b : At) (g : Str), atOk a → g ∈ signs → atOk b → okN d' (.set x a g b) := fun d' x a b g h1 h2 h3 => by cases d' <;> exact ⟨h1, h2, h3⟩
    have one1 : atOk (.num 1) := show ((1 : Nat) : Int) < 1000003 by decide
    have one0 : atOk (.num 0) := show ((0 : Nat) : Int) < 1000003 by decide
    have r9 : RowsD H9 1 1 (.ref p9) [.set "ww" (.nam "ww") "-" (.num 1)] := ⟨p9, _, rfl, n9.at_, ⟨_, _, rfl, ⟨p8, _, rfl, n9.get n8.at_, _, _, rfl, rfl, _, _, rfl, rfl, _, _, rfl, rfl, _, _, rfl, rfl, _, _, rfl, rfl, rfl⟩, rfl⟩, Nat.le_refl _, fun r hr => by
      obtain rfl := List.mem_singleton.mp hr
      exact okset _ _ _ _ _ trivial (by simp [signs]) one1⟩
    have z79 := n8.same.trans n9.same
    refine catR ((h7.keep (Keep.of z79)).up (e := 1) (m := 8) (by decide) (by decide)) r9 (by decide) (fun H10 v10 z10 h10 => ?_)
    have z7_10 := z79.trans z10
    have s10 := s7.trans z7_10
    have t10 := z7_10 _ _ t7
    have h6 := h6.keep (Keep.of z7_10)
    obtain ⟨q10, us10, rfl, hq10, hus10, hl10, ok10⟩ := h10
    walk_at "sy"
    refine use_draw (st s10) t10 (by omega) (by decide) (fun H11 d11 c11 l11 u11 => ?_)
    obtain ⟨m11, rfl⟩ : ∃ n : Nat, d11 = n := Int.eq_ofNat_of_zero_le l11
    have s11 := sameB s10 c11.but fT
    have h6 := h6.keep c11.keepL
    have hq11 := c11.keepL _ _ hq10 trivial
    have hus11 := hus10.keep c11.keepL
    walk_at "sy"
    rename_i p12 H12 n12 p13 H13 n13 p14 H14 n14
    have z1114 := n12.same.trans (n13.same.trans n14.same)
    have z1214 := n13.same.trans n14.same
    have r14 : RowsD H14 2 2 (.ref p14) [.set "ww" (.num m11) "" (.num 0), .whl (.nam "ww") (r7 ++ [.set "ww" (.nam "ww") "-" (.num 1)])] := ⟨p14, _, rfl, n14.at_, ⟨_, _, rfl, ⟨p12, _, rfl, z1214 _ _ n12.at_, _, _, rfl, rfl, _, _, rfl, rfl, _, _, rfl, rfl, _, _, rfl, rfl, _, _, rfl, rfl, rfl⟩, _, _, rfl, ⟨p13, _, rfl, n14.get n13.at_, _, _, rfl, rfl, _, _, rfl, rfl, _, _, rfl, ⟨q10, us10, rfl, z1114 _ _ hq11, hus11.keep (Keep.of z1114)⟩, rfl⟩, rfl⟩, Nat.le_refl _, fun r hr => by
      simp only [List.mem_cons, List.not_mem_nil, or_false] at hr
      rcases hr with rfl | rfl
      · exact okset _ _ _ _ _ (show ((m11 : Nat) : Int) < 1000003 by omega) (by simp [signs]) one0
      · exact ⟨trivial, by omega, ok10⟩⟩
    refine catR (h6.keep (Keep.of z1114)) r14 (by decide) (fun H15 v15 z15 h15 => ?_)
    have s15 := s11.trans (z1114.trans z15)
    have t15 := z15 _ _ (z1114 _ _ c11.at_)
    walk_at "sy"
    rename_i p16 H16 n16 p17 H17 n17 p18 H18 n18 p19 H19 n19
    have z1519 := n16.same.trans (n17.same.trans (n18.same.trans n19.same))
    have z1619 := n17.same.trans (n18.same.trans n19.same)
    have z1719 := n18.same.trans n19.same
    have r19 : RowsD H19 2 3 (.ref p19) [.tell (.nam "x"), .tell (.nam "y"), .tell (.nam "z")] := ⟨p19, _, rfl, n19.at_, ⟨_, _, rfl, ⟨p16, _, rfl, z1619 _ _ n16.at_, _, _, rfl, rfl, _, _, rfl, rfl, rfl⟩, _, _, rfl, ⟨p17, _, rfl, z1719 _ _ n17.at_, _, _, rfl, rfl, _, _, rfl, rfl, rfl⟩, _, _, rfl, ⟨p18, _, rfl, n19.get n18.at_, _, _, rfl, rfl, _, _, rfl, rfl, rfl⟩, rfl⟩, Nat.le_refl _, fun r hr => by
      simp only [List.mem_cons, List.not_mem_nil, or_false] at hr
      rcases hr with rfl | rfl | rfl <;> exact trivial⟩
    refine catR (h15.keep (Keep.of z1519)) r19 (by decide) (fun H20 v20 z20 h20 => ?_)
    have s20 := s15.trans (z1519.trans z20)
    have t20 := z20 _ _ (z1519 _ _ t15)
    have hsz : (Str.ofString "xyz").cps.size = 3 := by decide +kernel
    generalize (r2 ++ r3 ++ r5 ++ [Nr.set "ww" (.num m11) "" (.num 0), .whl (.nam "ww") (r7 ++ [.set "ww" (.nam "ww") "-" (.num 1)])] ++ [.tell (.nam "x"), .tell (.nam "y"), .tell (.nam "z")]) = R20 at h20
    clear h2 b2 t2 s2 h3 b3 t3 s3 h4 z4 s4 h5 b5 t5 s5 z6 s6 t6 h7 b7 t7 s7 h6 n8 n9 r9 z79 z10 z7_10 s10 t10 hq10 hus10 hl10 ok10 c11 l11 u11 s11 hq11 hus11 n12 n13 n14 z1114 z1214 r14 z15 h15 s15 t15 n16 n17 n18 n19 z1519 z1619 z1719 r19 z20
    walk_at "sy"
    refine ⟨_, rfl, ?_⟩
    refine k_lcS (fun D i Hy => Same H20 Hy ∧ ∃ (ws : List V) (rs : List Nr), Hy D = some (.lst ws) ∧ IsDs Hy (toldNs rs) ws ∧ rs.length = i ∧ ∀ r ∈ rs, okN 1 r) (fun D H' n => ⟨n.same, [], [], n.at_, rfl, rfl, fun r h => absurd h (by simp)⟩) ?_ ?_
    · rintro D hD i c Hy hc ⟨sy, ws, rs, hDy, hws, hrl, hok⟩
      have hi : i < 3 := by rw [← hsz]; exact (Array.getElem?_eq_some_iff.mp hc).1
      have hwl : ws.length ≤ 3 := by rw [hws.len, toldNs_len]; omega
      walk_at "sy"
      rename_i p21 H21 n21 H22 c22
      refine ⟨c22.sameOwn (sy.trans n21.same) hD, _, rs ++ [.set ⟨#[c]⟩ (.num 1) "" (.num 0)], c22.at_, ?_, by simp [hrl], fun r hr => ?_⟩
      · rw [toldNs_snoc]
        have r21 : IsD H22 (toldN (.set ⟨#[c]⟩ (.num 1) "" (.num 0))) (.ref p21) := ⟨p21, _, rfl, c22.keepL _ _ n21.at_ trivial, _, _, rfl, rfl, _, _, rfl, rfl, _, _, rfl, rfl, _, _, rfl, rfl, _, _, rfl, rfl, rfl⟩
        exact IsDs.snoc r21 ((hws.keep n21.keep).keep c22.keepL)
      · rcases List.mem_append.mp hr with hr | hr
        · exact hok r hr
        · obtain rfl := List.mem_singleton.mp hr
          exact okset _ _ _ _ _ one1 (by simp [signs]) one0
    · rintro D hD Hy ⟨sy, ws, rs, hDy, hws, hrl, hok⟩
      rw [hsz] at hrl
      walk_at "sy"
      rename_i p21 z21 H21 n21 p22 H22 n22 p23 H23 n23 p24 H24 n24
      have zy24 := n21.same.trans (n22.same.trans (n23.same.trans n24.same))
      have r24 : RowsD H24 2 1 (.ref p24) [.iff (.num 0) rs []] := ⟨p24, _, rfl, n24.at_, ⟨_, _, rfl, ⟨p23, _, rfl, n24.get n23.at_, _, _, rfl, rfl, _, _, rfl, rfl, _, _, rfl, ⟨p21, ws, rfl, n24.get (n23.get (n22.get n21.at_)), hws.keep (Keep.of zy24)⟩, _, _, rfl, ⟨p22, [], rfl, n24.get (n23.get n22.at_), rfl⟩, rfl⟩, rfl⟩, Nat.le_refl _, fun r hr => by
        obtain rfl := List.mem_singleton.mp hr
        exact ⟨one0, by omega, by simp, hok, fun r h => absurd h (by simp)⟩⟩
      refine catR r24 (h20.keep (Keep.of (sy.trans zy24))) (by decide) (fun H25 v25 z25 h25 => ?_)
      have z20_25 := sy.trans (zy24.trans z25)
      have s25 := s20.trans z20_25
      have t25 := z20_25 _ _ t20
      obtain ⟨rp, us, rfl, hrp, hus, hRl, hRok⟩ := h25
      generalize ([Nr.iff (.num 0) rs []] ++ R20) = R at hus hRl hRok
      clear n21 n22 n23 n24 zy24 r24 z25 z20_25 sy hDy hws h20 s20 t20 hrl hok hsz okset one1 one0
      walk_at "sy"
      rename_i e26 H26 n26 e27 H27 n27 h28 H28 n28 h29 H29 n29 pt H30 n30
      have z25_30 := n26.same.trans (n27.same.trans (n28.same.trans (n29.same.trans n30.same)))
      have z26_30 := n27.same.trans (n28.same.trans (n29.same.trans n30.same))
      have z27_30 := n28.same.trans (n29.same.trans n30.same)
      have z28_30 := n29.same.trans n30.same
      have tA : ToldAt H30 pt R := ⟨e26, h29, h28, e27, rp, us, n30.at_, z26_30 _ _ n26.at_, n30.get n29.at_, z28_30 _ _ n28.at_, z27_30 _ _ n27.at_, z25_30 _ _ hrp, hus.keep (Keep.of z25_30)⟩
      have s30 := s25.trans z25_30
      have t30 := z25_30 _ _ t25
      have hrp30 := z25_30 _ _ hrp
      have hus30 := hus.keep (Keep.of z25_30)
      refine use_draw (st s30) t30 (by omega) (by decide) (fun H31 d31 c31 l31 u31 => ?_)
      obtain ⟨m31, rfl⟩ : ∃ n : Nat, d31 = n := Int.eq_ofNat_of_zero_le l31
      have s31 := sameB s30 c31.but fT
      have tA31 := tA.keep c31.keepL
      have hrp31 := c31.keepL _ _ hrp30 trivial
      have hus31 := hus30.keep c31.keepL
      have t31 := c31.at_
      clear n26 n27 n28 n29 n30 z25_30 z26_30 z27_30 z28_30 tA s30 t30 hrp30 hus30 s25 t25 hrp hus c31
      walk_at "sy"
      refine k_lcR (fun D i Hy => Same H Hy ∧ Keep H31 Hy ∧ Hy tp = some (.lst [.int ((k7 + 2 + i : Nat) : Int)]) ∧ ∃ is : List Int, Hy D = some (.lst (is.map V.int)) ∧ is.length = i) (fun D Hy n => ⟨s31.trans n.same, n.keep, n.get t31, [], n.at_, rfl⟩) ?_ ?_
      · rintro D hD i Hy hi ⟨sy, ky, ty, is, hDy, hil⟩
        have neD : D ≠ tp := (ne_of_none t31 hD).symm
        have fD : H D = none := s31.free hD
        have hil2 : is.length ≤ 7 := by omega
        walk_at "sy"
        refine use_draw (st sy) ty (by omega) (by decide) (fun H32 d32 c32 l32 u32 => ?_)
        have hD32 := c32.get hDy neD
        walk_at "sy"
        rename_i H33 c33
        refine ⟨c33.sameOwn (sameB sy c32.but fT) fD, ky.trans (c32.keepL.trans c33.keepL), c33.get c32.at_ neD.symm, is ++ [d32 - 2000006], ?_, by simp [hil]⟩
        rw [List.map_append]
        exact c33.at_
      · rintro ia hD H33 ⟨s33, k33, t33, ins, hia, hil⟩
        simp only [Int.toNat_natCast] at t33 hil
        have neI : ia ≠ tp := (ne_of_none t31 hD).symm
        have tA33 := tA31.keep k33
        have hrp33 := k33 _ _ hrp31 trivial
        have hus33 := hus31.keep k33
        walk_at "sy"
        refine use_draw (st s33) t33 (by omega) (by decide) (fun H34 d34 c34 l34 u34 => ?_)
        obtain ⟨m34, rfl⟩ : ∃ n : Nat, d34 = n := Int.eq_ofNat_of_zero_le l34
        have s34 := sameB s33 c34.but fT
        walk_at "sy"
        refine use_draw (st s34) c34.at_ (by omega) (by decide) (fun H35 d35 c35 l35 u35 => ?_)
        obtain ⟨m35, rfl⟩ : ∃ n : Nat, d35 = n := Int.eq_ofNat_of_zero_le l35
        have s35 := sameB s34 c35.but fT
        walk_at "sy"
        rename_i l36 H36 n36
        have s36 := s35.trans n36.same
        refine ⟨a, tp, l36, ns, _, _, rfl, st s36, n36.get c35.at_, by omega, n36.at_, n36.ne c35.at_, by simp, fun H37 i37 v37 hv37 c37 => ?_⟩
        obtain ⟨t, rfl, ht⟩ : ∃ t : Nat, v37 = .int (t : Int) ∧ t ≤ 200 := by
          have hi := (List.getElem?_eq_some_iff.mp hv37).1
          simp only [List.length_cons, List.length_nil] at hi
          have : i37 = 0 ∨ i37 = 1 ∨ i37 = 2 := by omega
          rcases this with rfl | rfl | rfl <;> cases hv37
          · exact ⟨m34, rfl, by omega⟩
          · exact ⟨m35, rfl, by omega⟩
          · exact ⟨200, rfl, by omega⟩
        clear hv37
        have s37 := sameB s36 c37.but fT
        have k37 : Keep H33 H37 := c34.keepL.trans (c35.keepL.trans (n36.keep.trans c37.keepL))
        have tA37 := tA33.keep k37
        have hrp37 := k37 _ _ hrp33 trivial
        have hus37 := hus33.keep k37
        have hia37 := c37.get (n36.get (c35.get (c34.get hia neI) neI)) neI
        clear c34 c35 n36 c37 k37 s33 k33 t33 hia neI tA33 hrp33 hus33 s34 s35 s36 s37 s31 tA31 hrp31 hus31 t31 hD n1 fT st hS
        walk_at "sy"
        rename_i rd H38 n38 tl H39 n39
        refine w_kdisp [(Sum.inr "ticks", .int (t : Int)), (Sum.inr "told", .ref tl), (Sum.inr "inputs", .ref ia), (Sum.inr "asked", .int 0)] (n39.get n38.at_) rfl (by simp) rfl (fun H40 c40 => ?_)
        walk_at "sy"
        rename_i f H41 n41
        have o1 : Own H37 H38 [(rd, .dK [])] := (Own.nil (Same.refl H37)).new n38
        have o2 := o1.new n39
        have o3 := Own.at (l1 := [_]) (l2 := []) o2 c40
        have o4 := o3.new n41
        have M : LAt ins H37 H41 ⟨rd, f, tl, ia⟩ (s0 t) (t : Int) := ⟨o4, hia37⟩
        refine ⟨ins, H37, ⟨rd, f, tl, ia⟩, s0 t, rp, us, R, 1000, rfl, M, hrp37, hus37, hRok, Nat.le_refl _, ⟨?_, ?_, fun p hp => absurd hp (by simp [s0])⟩, fun s' over H42 hg M' => ?_⟩
        · show 0 + t ≤ 1000
          omega
        · show 0 + t ≤ 1000
          omega
        have s42 := M'.own.same
        clear n38 n39 c40 n41 o1 o2 o3 o4 M hrp37 hus37
        have hr' := M'.r
        have hn' := M'.n
        have hsok : SOk 1000 s' := hg.ok (d := 2) ⟨by show 0 + t ≤ 1000; omega, by show 0 + t ≤ 1000; omega, fun p hp => absurd hp (by simp [s0])⟩ hRok
        have htl : s'.told.length ≤ 1000 := by have := hsok.a; omega
        have d7 : valV (lD ⟨rd, f, tl, ia⟩ s' (tk s' over)) (Sum.inr "told") = some (.ref tl) := rfl
        have d8 : valV (lD ⟨rd, f, tl, ia⟩ s' (tk s' over)) (Sum.inr "ticks") = some (.int (tk s' over)) := rfl
        have tA42 := tA37.keep (Keep.of s42)
        have hia42 := s42 _ _ hia37
        have ad : atI [V.str "done", V.str "dry"] (if decide (tk s' over < 0) = true then 1 else 0) = some (.str (if over = true then "dry" else "done")) := by
          cases over with
          | true => rfl
          | false =>
            have : ¬ (tk s' false < 0) := by show ¬ ((s'.t : Int) < 0); omega
            rw [decide_eq_false this]
            rfl
        have tA37 := tA37
        clear M'
        walk_at "sy"
        rename_i dt z43 H43 n43 l44 H44 n44 du H45 n45
        have z42_45 := n43.same.trans (n44.same.trans n45.same)
        refine ⟨pt, R, rfl, tA42.keep (Keep.of z42_45), by omega, hRok, fun H46 v hl s46 hP => ?_⟩
        have hia46 := s46 _ _ (z42_45 _ _ hia42)
        have hdu46 := s46 _ _ n45.at_
        have hdt46 := s46 _ _ (n45.get (n44.get n43.at_))
        clear n43 n44 n45 z42_45 s46 s42 hr' hn' d7 d8 ad tA42 hia42 tA37 hia37 hsok
        walk_at "sy"
        refine k_forR (fun i σ Hx => ∃ (v10 v11 : Option V), σ = [some (.ref a), some (.ref tp), some (.ref rp), some (.ref q10), some (.ref pt), some (.ref ia), some (.int (t : Int)), some (.ref rd), some (.ref du), some (.ref v), v10, v11, none, none] ∧ Same H46 Hx) ⟨none, none, rfl, Same.refl _⟩ ?_ ?_
        · rintro i σ Hx hi ⟨v10, v11, rfl, sx⟩
          walk_at "sy"
          refine ⟨v, hl, ia, R, ins, t, rfl, hP.keep (Keep.of sx), sx _ _ hia46, by omega, by omega, hRok, fun H47 p47 l47 s2 over2 hg2 s47 hp47 hl47 hf47 => ?_⟩
          have e := hg.det hg2
          cases e
          have nel : l47 ≠ p47 := fun e => by rw [e, hp47] at hl47; cases hl47
          walk_at "sy"
          rename_i dt2 z48 H48 n48 du2 H49 n49
          have z47_49 := n48.same.trans n49.same
          refine use_alike (.tup [.tup (s'.told.map Dt.int), .str (if over = true then "dry" else "done")]) ⟨du2, _, rfl, n49.at_, _, _, rfl, ⟨dt2, _, rfl, n49.get n48.at_, isDs_ints _⟩, _, _, rfl, rfl, rfl⟩ ⟨du, _, rfl, z47_49 _ _ (s47 _ _ (sx _ _ hdu46)), _, _, rfl, ⟨dt, _, rfl, z47_49 _ _ (s47 _ _ (sx _ _ hdt46)), isDs_ints _⟩, _, _, rfl, rfl, rfl⟩ ?_ ?_ (fun H50 s50 => ?_)
          · simp only [dpt, dpts, dpts_ints]
            decide
          · exact ⟨by simp, ⟨by rw [List.length_map]; omega, small_ints _⟩, trivial, trivial⟩
          have hp50 := s50 _ _ (z47_49 _ _ hp47)
          have hl50 := s50 _ _ (z47_49 _ _ hl47)
          walk_at "sy"
          rename_i H51 c51
          exact ⟨_, _, rfl, c51.sameOwn (sx.trans (s47.trans (z47_49.trans s50))) (sx.free hf47)⟩
        · rintro σ Hx ⟨v10, v11, rfl, sx⟩
          walk_at "sy"
          refine ⟨v, hl, ia, R, ins, t, rfl, hP.keep (Keep.of sx), sx _ _ hia46, by omega, by omega, hRok, fun H47 x dx l s47 hx hl47 => ?_⟩
          walk_at "sy"
          refine ⟨x, dx, l, rfl, hx, hl47, ?_⟩
          walk_at "sy"
          exact q _
end
theorem all_mk {l : PySem.W.OpenLaw} {w : World} {K : PySem.W.Frag} {h : Heap} {mg : Str → Option Value} {fa a_SetRow a_AskRow a_TellRow a_IfRow a_WhileRow a_Helper a_Program a_Teller a_World a_Row a_Over f_SetRow_init f_AskRow_init f_TellRow_init f_IfRow_init f_WhileRow_init f_Helper_init f_Program_init f_Teller_init f_World_init f_rows_of f_block_of f_row_of f_Over_init f_reckoned f_Teller_ticked f_Teller_worth f_Teller_numbered f_Teller_blocked f_Teller_done f_Teller_went f_Teller_ran f_World_many f_run_of f_told_of f_world_of f_l_draw f_l_pick f_l_made f_l_alike f_l_atom f_l_rows f_l_value f_l_number f_l_walk f_law : Addr} (X : K.In h) (G : h.Ns mainGlobals mg) (hfa : mg "law" = some (.ref fa))
    {od_SetRow_init an_SetRow_init od_AskRow_init an_AskRow_init od_TellRow_init an_TellRow_init od_IfRow_init an_IfRow_init od_WhileRow_init an_WhileRow_init od_Helper_init an_Helper_init od_Program_init an_Program_init od_Teller_init an_Teller_init od_World_init an_World_init od_rows_of an_rows_of od_block_of an_block_of od_row_of an_row_of od_Over_init an_Over_init od_reckoned an_reckoned od_Teller_ticked an_Teller_ticked od_Teller_worth an_Teller_worth od_Teller_numbered an_Teller_numbered od_Teller_blocked an_Teller_blocked od_Teller_done an_Teller_done od_Teller_went an_Teller_went od_Teller_ran an_Teller_ran od_World_many an_World_many od_run_of an_run_of od_told_of an_told_of od_world_of an_world_of od_l_draw an_l_draw od_l_pick an_l_pick od_l_made an_l_made od_l_alike an_l_alike od_l_atom an_l_atom od_l_rows an_l_rows od_l_value an_l_value od_l_number an_l_number od_l_walk an_l_walk od_law an_law : Option Addr} {sl_SetRow_init sl_AskRow_init sl_TellRow_init sl_IfRow_init sl_WhileRow_init sl_Helper_init sl_Program_init sl_Teller_init sl_World_init sl_rows_of sl_block_of sl_row_of sl_Over_init sl_reckoned sl_Teller_ticked sl_Teller_worth sl_Teller_numbered sl_Teller_blocked sl_Teller_done sl_Teller_went sl_Teller_ran sl_World_many sl_run_of sl_told_of sl_world_of sl_l_draw sl_l_pick sl_l_made sl_l_alike sl_l_atom sl_l_rows sl_l_value sl_l_number sl_l_walk sl_law : Array (Option Value)} {oc_SetRow_init kV_SetRow_init dc_SetRow_init pm_SetRow_init cd_SetRow_init ct_SetRow_init oc_AskRow_init kV_AskRow_init dc_AskRow_init pm_AskRow_init cd_AskRow_init ct_AskRow_init oc_TellRow_init kV_TellRow_init dc_TellRow_init pm_TellRow_init cd_TellRow_init ct_TellRow_init oc_IfRow_init kV_IfRow_init dc_IfRow_init pm_IfRow_init cd_IfRow_init ct_IfRow_init oc_WhileRow_init kV_WhileRow_init dc_WhileRow_init pm_WhileRow_init cd_WhileRow_init ct_WhileRow_init oc_Helper_init kV_Helper_init dc_Helper_init pm_Helper_init cd_Helper_init ct_Helper_init oc_Program_init kV_Program_init dc_Program_init pm_Program_init cd_Program_init ct_Program_init oc_Teller_init kV_Teller_init dc_Teller_init pm_Teller_init cd_Teller_init ct_Teller_init oc_World_init kV_World_init dc_World_init pm_World_init cd_World_init ct_World_init oc_rows_of kV_rows_of dc_rows_of pm_rows_of cd_rows_of ct_rows_of oc_block_of kV_block_of dc_block_of pm_block_of cd_block_of ct_block_of oc_row_of kV_row_of dc_row_of pm_row_of cd_row_of ct_row_of oc_Over_init kV_Over_init dc_Over_init pm_Over_init cd_Over_init ct_Over_init oc_reckoned kV_reckoned dc_reckoned pm_reckoned cd_reckoned ct_reckoned oc_Teller_ticked kV_Teller_ticked dc_Teller_ticked pm_Teller_ticked cd_Teller_ticked ct_Teller_ticked oc_Teller_worth kV_Teller_worth dc_Teller_worth pm_Teller_worth cd_Teller_worth ct_Teller_worth oc_Teller_numbered kV_Teller_numbered dc_Teller_numbered pm_Teller_numbered cd_Teller_numbered ct_Teller_numbered oc_Teller_blocked kV_Teller_blocked dc_Teller_blocked pm_Teller_blocked cd_Teller_blocked ct_Teller_blocked oc_Teller_done kV_Teller_done dc_Teller_done pm_Teller_done cd_Teller_done ct_Teller_done oc_Teller_went kV_Teller_went dc_Teller_went pm_Teller_went cd_Teller_went ct_Teller_went oc_Teller_ran kV_Teller_ran dc_Teller_ran pm_Teller_ran cd_Teller_ran ct_Teller_ran oc_World_many kV_World_many dc_World_many pm_World_many cd_World_many ct_World_many oc_run_of kV_run_of dc_run_of pm_run_of cd_run_of ct_run_of oc_told_of kV_told_of dc_told_of pm_told_of cd_told_of ct_told_of oc_world_of kV_world_of dc_world_of pm_world_of cd_world_of ct_world_of oc_l_draw kV_l_draw dc_l_draw pm_l_draw cd_l_draw ct_l_draw oc_l_pick kV_l_pick dc_l_pick pm_l_pick cd_l_pick ct_l_pick oc_l_made kV_l_made dc_l_made pm_l_made cd_l_made ct_l_made oc_l_alike kV_l_alike dc_l_alike pm_l_alike cd_l_alike ct_l_alike oc_l_atom kV_l_atom dc_l_atom pm_l_atom cd_l_atom ct_l_atom oc_l_rows kV_l_rows dc_l_rows pm_l_rows cd_l_rows ct_l_rows oc_l_value kV_l_value dc_l_value pm_l_value cd_l_value ct_l_value oc_l_number kV_l_number dc_l_number pm_l_number cd_l_number ct_l_number oc_l_walk kV_l_walk dc_l_walk pm_l_walk cd_l_walk ct_l_walk oc_law kV_law dc_law pm_law cd_law ct_law : Value}
    (zn_tuple : PySem.W.nsIn K mainGlobals "tuple" = some none)
    (zn_list : PySem.W.nsIn K mainGlobals "list" = some none)
    (zn_Exception : PySem.W.nsIn K mainGlobals "Exception" = some none)
    (zn_int : PySem.W.nsIn K mainGlobals "int" = some none)
    (zn_isinstance : PySem.W.nsIn K mainGlobals "isinstance" = some none)
    (zn_len : PySem.W.nsIn K mainGlobals "len" = some none)
    (zn_all : PySem.W.nsIn K mainGlobals "all" = some none)
    (zn_zip : PySem.W.nsIn K mainGlobals "zip" = some none)
    (zn_bool : PySem.W.nsIn K mainGlobals "bool" = some none)
    (zn_str : PySem.W.nsIn K mainGlobals "str" = some none)
    (zn_range : PySem.W.nsIn K mainGlobals "range" = some none)
    (zc_SetRow : PySem.W.nsIn K mainGlobals "SetRow" = some (some (.ref a_SetRow)))
    (zpg_SetRow : PySem.W.plainGet K a_SetRow Str.empty = true)
    (zhd_SetRow : PySem.W.hasDictIn K a_SetRow = true)
    (zpo_SetRow : PySem.W.plainOver K a_SetRow = true)
    (zsa_SetRow : PySem.W.findIn K (.ref a_SetRow) "__setattr__" = some (some (.builtin "object.__setattr__")))
    (zmk_SetRow : PySem.W.makesIn K a_SetRow = true)
    (zkc_SetRow : PySem.W.keepIn K (.ref a_SetRow) = true)
    (zna_SetRow_name : PySem.W.findIn K (.ref a_SetRow) "name" = some none)
    (zna_SetRow_one : PySem.W.findIn K (.ref a_SetRow) "one" = some none)
    (zna_SetRow_sign : PySem.W.findIn K (.ref a_SetRow) "sign" = some none)
    (zna_SetRow_other : PySem.W.findIn K (.ref a_SetRow) "other" = some none)
    (zc_AskRow : PySem.W.nsIn K mainGlobals "AskRow" = some (some (.ref a_AskRow)))
    (zpg_AskRow : PySem.W.plainGet K a_AskRow Str.empty = true)
    (zhd_AskRow : PySem.W.hasDictIn K a_AskRow = true)
    (zpo_AskRow : PySem.W.plainOver K a_AskRow = true)
    (zsa_AskRow : PySem.W.findIn K (.ref a_AskRow) "__setattr__" = some (some (.builtin "object.__setattr__")))
    (zmk_AskRow : PySem.W.makesIn K a_AskRow = true)
    (zkc_AskRow : PySem.W.keepIn K (.ref a_AskRow) = true)
    (zna_AskRow_name : PySem.W.findIn K (.ref a_AskRow) "name" = some none)
    (zc_TellRow : PySem.W.nsIn K mainGlobals "TellRow" = some (some (.ref a_TellRow)))
    (zpg_TellRow : PySem.W.plainGet K a_TellRow Str.empty = true)
    (zhd_TellRow : PySem.W.hasDictIn K a_TellRow = true)
    (zpo_TellRow : PySem.W.plainOver K a_TellRow = true)
    (zsa_TellRow : PySem.W.findIn K (.ref a_TellRow) "__setattr__" = some (some (.builtin "object.__setattr__")))
    (zmk_TellRow : PySem.W.makesIn K a_TellRow = true)
    (zkc_TellRow : PySem.W.keepIn K (.ref a_TellRow) = true)
    (zna_TellRow_atom : PySem.W.findIn K (.ref a_TellRow) "atom" = some none)
    (zc_IfRow : PySem.W.nsIn K mainGlobals "IfRow" = some (some (.ref a_IfRow)))
    (zpg_IfRow : PySem.W.plainGet K a_IfRow Str.empty = true)
    (zhd_IfRow : PySem.W.hasDictIn K a_IfRow = true)
    (zpo_IfRow : PySem.W.plainOver K a_IfRow = true)
    (zsa_IfRow : PySem.W.findIn K (.ref a_IfRow) "__setattr__" = some (some (.builtin "object.__setattr__")))
    (zmk_IfRow : PySem.W.makesIn K a_IfRow = true)
    (zkc_IfRow : PySem.W.keepIn K (.ref a_IfRow) = true)
    (zna_IfRow_atom : PySem.W.findIn K (.ref a_IfRow) "atom" = some none)
    (zna_IfRow_rows : PySem.W.findIn K (.ref a_IfRow) "rows" = some none)
    (zna_IfRow_others : PySem.W.findIn K (.ref a_IfRow) "others" = some none)
    (zc_WhileRow : PySem.W.nsIn K mainGlobals "WhileRow" = some (some (.ref a_WhileRow)))
    (zpg_WhileRow : PySem.W.plainGet K a_WhileRow Str.empty = true)
    (zhd_WhileRow : PySem.W.hasDictIn K a_WhileRow = true)
    (zpo_WhileRow : PySem.W.plainOver K a_WhileRow = true)
    (zsa_WhileRow : PySem.W.findIn K (.ref a_WhileRow) "__setattr__" = some (some (.builtin "object.__setattr__")))
    (zmk_WhileRow : PySem.W.makesIn K a_WhileRow = true)
    (zkc_WhileRow : PySem.W.keepIn K (.ref a_WhileRow) = true)
    (zna_WhileRow_atom : PySem.W.findIn K (.ref a_WhileRow) "atom" = some none)
    (zna_WhileRow_rows : PySem.W.findIn K (.ref a_WhileRow) "rows" = some none)
    (zc_Helper : PySem.W.nsIn K mainGlobals "Helper" = some (some (.ref a_Helper)))
    (zpg_Helper : PySem.W.plainGet K a_Helper Str.empty = true)
    (zhd_Helper : PySem.W.hasDictIn K a_Helper = true)
    (zpo_Helper : PySem.W.plainOver K a_Helper = true)
    (zsa_Helper : PySem.W.findIn K (.ref a_Helper) "__setattr__" = some (some (.builtin "object.__setattr__")))
    (zmk_Helper : PySem.W.makesIn K a_Helper = true)
    (zkc_Helper : PySem.W.keepIn K (.ref a_Helper) = true)
    (zna_Helper_name : PySem.W.findIn K (.ref a_Helper) "name" = some none)
    (zna_Helper_params : PySem.W.findIn K (.ref a_Helper) "params" = some none)
    (zna_Helper_gives : PySem.W.findIn K (.ref a_Helper) "gives" = some none)
    (zna_Helper_rows : PySem.W.findIn K (.ref a_Helper) "rows" = some none)
    (zc_Program : PySem.W.nsIn K mainGlobals "Program" = some (some (.ref a_Program)))
    (zpg_Program : PySem.W.plainGet K a_Program Str.empty = true)
    (zhd_Program : PySem.W.hasDictIn K a_Program = true)
    (zpo_Program : PySem.W.plainOver K a_Program = true)
    (zsa_Program : PySem.W.findIn K (.ref a_Program) "__setattr__" = some (some (.builtin "object.__setattr__")))
    (zmk_Program : PySem.W.makesIn K a_Program = true)
    (zkc_Program : PySem.W.keepIn K (.ref a_Program) = true)
    (zna_Program_records : PySem.W.findIn K (.ref a_Program) "records" = some none)
    (zna_Program_helpers : PySem.W.findIn K (.ref a_Program) "helpers" = some none)
    (zc_Teller : PySem.W.nsIn K mainGlobals "Teller" = some (some (.ref a_Teller)))
    (zpg_Teller : PySem.W.plainGet K a_Teller Str.empty = true)
    (zhd_Teller : PySem.W.hasDictIn K a_Teller = true)
    (zpo_Teller : PySem.W.plainOver K a_Teller = true)
    (zsa_Teller : PySem.W.findIn K (.ref a_Teller) "__setattr__" = some (some (.builtin "object.__setattr__")))
    (zmk_Teller : PySem.W.makesIn K a_Teller = true)
    (zkc_Teller : PySem.W.keepIn K (.ref a_Teller) = true)
    (zna_Teller_helpers : PySem.W.findIn K (.ref a_Teller) "helpers" = some none)
    (zna_Teller_layouts : PySem.W.findIn K (.ref a_Teller) "layouts" = some none)
    (zna_Teller_world : PySem.W.findIn K (.ref a_Teller) "world" = some none)
    (zna_Teller_inputs : PySem.W.findIn K (.ref a_Teller) "inputs" = some none)
    (zna_Teller_asked : PySem.W.findIn K (.ref a_Teller) "asked" = some none)
    (zna_Teller_ticks : PySem.W.findIn K (.ref a_Teller) "ticks" = some none)
    (zna_Teller_numbers : PySem.W.findIn K (.ref a_Teller) "numbers" = some none)
    (zc_World : PySem.W.nsIn K mainGlobals "World" = some (some (.ref a_World)))
    (zpg_World : PySem.W.plainGet K a_World Str.empty = true)
    (zhd_World : PySem.W.hasDictIn K a_World = true)
    (zpo_World : PySem.W.plainOver K a_World = true)
    (zsa_World : PySem.W.findIn K (.ref a_World) "__setattr__" = some (some (.builtin "object.__setattr__")))
    (zmk_World : PySem.W.makesIn K a_World = true)
    (zkc_World : PySem.W.keepIn K (.ref a_World) = true)
    (zna_World_boxes : PySem.W.findIn K (.ref a_World) "boxes" = some none)
    (zc_Row : PySem.W.nsIn K mainGlobals "Row" = some (some (.ref a_Row)))
    (zpg_Row : PySem.W.plainGet K a_Row Str.empty = true)
    (zhd_Row : PySem.W.hasDictIn K a_Row = true)
    (zpo_Row : PySem.W.plainOver K a_Row = true)
    (zsa_Row : PySem.W.findIn K (.ref a_Row) "__setattr__" = some (some (.builtin "object.__setattr__")))
    (zc_Over : PySem.W.nsIn K mainGlobals "Over" = some (some (.ref a_Over)))
    (zox_Over : oexXB K a_Over = true)
    (zxf_Over : xfB K a_Over = true)
    (zsx_Over : PySem.W.findIn K (.ref a_Over) "__setattr__" = some (some (.builtin "object.__setattr__")))
    (zbx_Over : PySem.W.subIn K (.ref a_Over) (.type "BaseException") = some true)
    (ztx_Over : PySem.W.typeIn K (.ref a_Over) = some (.type "type"))
    (zkx_Over : PySem.W.keepIn K (.ref a_Over) = true)
    (zti_Over : PySem.W.typeIn K (.ref f_Over_init) = some (.type "function"))
    (zxa_Over_how : PySem.W.findIn K (.ref a_Over) "how" = some none)
    (zmm_Over_Over : PySem.W.exmOne K (.ref a_Over) (.ref a_Over) = some true)
    (zkk_Over_Over : PySem.W.kitOne K (.ref a_Over) (.ref a_Over) = some true)
    (zmc_PRIME : ∃ t, PySem.W.nsIn K mainGlobals "PRIME" = some (some (.int (1000003) t)))
    (zisi : isiB K [a_SetRow, a_AskRow, a_TellRow, a_IfRow, a_WhileRow] a_Row = true)
    (za_SetRow_init : PySem.W.findIn K (.ref a_SetRow) "__init__" = some (some (.ref f_SetRow_init)))
    (zi_SetRow_init : PySem.W.isFn K (.ref f_SetRow_init) = true)
    (zl_SetRow_init : K.lookup f_SetRow_init = some ⟨oc_SetRow_init, od_SetRow_init, .func (PySem.W.fnOf "__init__" "SetRow.__init__" (defArgs s_SetRow_init) (defBody s_SetRow_init) (defScope s_SetRow_init) .none kV_SetRow_init dc_SetRow_init pm_SetRow_init an_SetRow_init cd_SetRow_init ct_SetRow_init), sl_SetRow_init⟩)
    (zd_SetRow_init : PySem.W.codeIn K cd_SetRow_init "SetRow.__init__" = true)
    (zk_SetRow_init : PySem.W.keepIn K (.ref f_SetRow_init) = true)
    (za_AskRow_init : PySem.W.findIn K (.ref a_AskRow) "__init__" = some (some (.ref f_AskRow_init)))
    (zi_AskRow_init : PySem.W.isFn K (.ref f_AskRow_init) = true)
    (zl_AskRow_init : K.lookup f_AskRow_init = some ⟨oc_AskRow_init, od_AskRow_init, .func (PySem.W.fnOf "__init__" "AskRow.__init__" (defArgs s_AskRow_init) (defBody s_AskRow_init) (defScope s_AskRow_init) .none kV_AskRow_init dc_AskRow_init pm_AskRow_init an_AskRow_init cd_AskRow_init ct_AskRow_init), sl_AskRow_init⟩)
    (zd_AskRow_init : PySem.W.codeIn K cd_AskRow_init "AskRow.__init__" = true)
    (zk_AskRow_init : PySem.W.keepIn K (.ref f_AskRow_init) = true)
    (za_TellRow_init : PySem.W.findIn K (.ref a_TellRow) "__init__" = some (some (.ref f_TellRow_init)))
    (zi_TellRow_init : PySem.W.isFn K (.ref f_TellRow_init) = true)
    (zl_TellRow_init : K.lookup f_TellRow_init = some ⟨oc_TellRow_init, od_TellRow_init, .func (PySem.W.fnOf "__init__" "TellRow.__init__" (defArgs s_TellRow_init) (defBody s_TellRow_init) (defScope s_TellRow_init) .none kV_TellRow_init dc_TellRow_init pm_TellRow_init an_TellRow_init cd_TellRow_init ct_TellRow_init), sl_TellRow_init⟩)
    (zd_TellRow_init : PySem.W.codeIn K cd_TellRow_init "TellRow.__init__" = true)
    (zk_TellRow_init : PySem.W.keepIn K (.ref f_TellRow_init) = true)
    (za_IfRow_init : PySem.W.findIn K (.ref a_IfRow) "__init__" = some (some (.ref f_IfRow_init)))
    (zi_IfRow_init : PySem.W.isFn K (.ref f_IfRow_init) = true)
    (zl_IfRow_init : K.lookup f_IfRow_init = some ⟨oc_IfRow_init, od_IfRow_init, .func (PySem.W.fnOf "__init__" "IfRow.__init__" (defArgs s_IfRow_init) (defBody s_IfRow_init) (defScope s_IfRow_init) .none kV_IfRow_init dc_IfRow_init pm_IfRow_init an_IfRow_init cd_IfRow_init ct_IfRow_init), sl_IfRow_init⟩)
    (zd_IfRow_init : PySem.W.codeIn K cd_IfRow_init "IfRow.__init__" = true)
    (zk_IfRow_init : PySem.W.keepIn K (.ref f_IfRow_init) = true)
    (za_WhileRow_init : PySem.W.findIn K (.ref a_WhileRow) "__init__" = some (some (.ref f_WhileRow_init)))
    (zi_WhileRow_init : PySem.W.isFn K (.ref f_WhileRow_init) = true)
    (zl_WhileRow_init : K.lookup f_WhileRow_init = some ⟨oc_WhileRow_init, od_WhileRow_init, .func (PySem.W.fnOf "__init__" "WhileRow.__init__" (defArgs s_WhileRow_init) (defBody s_WhileRow_init) (defScope s_WhileRow_init) .none kV_WhileRow_init dc_WhileRow_init pm_WhileRow_init an_WhileRow_init cd_WhileRow_init ct_WhileRow_init), sl_WhileRow_init⟩)
    (zd_WhileRow_init : PySem.W.codeIn K cd_WhileRow_init "WhileRow.__init__" = true)
    (zk_WhileRow_init : PySem.W.keepIn K (.ref f_WhileRow_init) = true)
    (za_Helper_init : PySem.W.findIn K (.ref a_Helper) "__init__" = some (some (.ref f_Helper_init)))
    (zi_Helper_init : PySem.W.isFn K (.ref f_Helper_init) = true)
    (zl_Helper_init : K.lookup f_Helper_init = some ⟨oc_Helper_init, od_Helper_init, .func (PySem.W.fnOf "__init__" "Helper.__init__" (defArgs s_Helper_init) (defBody s_Helper_init) (defScope s_Helper_init) .none kV_Helper_init dc_Helper_init pm_Helper_init an_Helper_init cd_Helper_init ct_Helper_init), sl_Helper_init⟩)
    (zd_Helper_init : PySem.W.codeIn K cd_Helper_init "Helper.__init__" = true)
    (zk_Helper_init : PySem.W.keepIn K (.ref f_Helper_init) = true)
    (za_Program_init : PySem.W.findIn K (.ref a_Program) "__init__" = some (some (.ref f_Program_init)))
    (zi_Program_init : PySem.W.isFn K (.ref f_Program_init) = true)
    (zl_Program_init : K.lookup f_Program_init = some ⟨oc_Program_init, od_Program_init, .func (PySem.W.fnOf "__init__" "Program.__init__" (defArgs s_Program_init) (defBody s_Program_init) (defScope s_Program_init) .none kV_Program_init dc_Program_init pm_Program_init an_Program_init cd_Program_init ct_Program_init), sl_Program_init⟩)
    (zd_Program_init : PySem.W.codeIn K cd_Program_init "Program.__init__" = true)
    (zk_Program_init : PySem.W.keepIn K (.ref f_Program_init) = true)
    (za_Teller_init : PySem.W.findIn K (.ref a_Teller) "__init__" = some (some (.ref f_Teller_init)))
    (zi_Teller_init : PySem.W.isFn K (.ref f_Teller_init) = true)
    (zl_Teller_init : K.lookup f_Teller_init = some ⟨oc_Teller_init, od_Teller_init, .func (PySem.W.fnOf "__init__" "Teller.__init__" (defArgs s_Teller_init) (defBody s_Teller_init) (defScope s_Teller_init) .none kV_Teller_init dc_Teller_init pm_Teller_init an_Teller_init cd_Teller_init ct_Teller_init), sl_Teller_init⟩)
    (zd_Teller_init : PySem.W.codeIn K cd_Teller_init "Teller.__init__" = true)
    (zk_Teller_init : PySem.W.keepIn K (.ref f_Teller_init) = true)
    (za_World_init : PySem.W.findIn K (.ref a_World) "__init__" = some (some (.ref f_World_init)))
    (zi_World_init : PySem.W.isFn K (.ref f_World_init) = true)
    (zl_World_init : K.lookup f_World_init = some ⟨oc_World_init, od_World_init, .func (PySem.W.fnOf "__init__" "World.__init__" (defArgs s_World_init) (defBody s_World_init) (defScope s_World_init) .none kV_World_init dc_World_init pm_World_init an_World_init cd_World_init ct_World_init), sl_World_init⟩)
    (zd_World_init : PySem.W.codeIn K cd_World_init "World.__init__" = true)
    (zk_World_init : PySem.W.keepIn K (.ref f_World_init) = true)
    (za_rows_of : PySem.W.nsIn K mainGlobals "rows_of" = some (some (.ref f_rows_of)))
    (zl_rows_of : K.lookup f_rows_of = some ⟨oc_rows_of, od_rows_of, .func (PySem.W.fnOf "rows_of" "rows_of" (defArgs s_rows_of) (defBody s_rows_of) (defScope s_rows_of) .none kV_rows_of dc_rows_of pm_rows_of an_rows_of cd_rows_of ct_rows_of), sl_rows_of⟩)
    (zd_rows_of : PySem.W.codeIn K cd_rows_of "rows_of" = true)
    (zk_rows_of : PySem.W.keepIn K (.ref f_rows_of) = true)
    (za_block_of : PySem.W.nsIn K mainGlobals "block_of" = some (some (.ref f_block_of)))
    (zl_block_of : K.lookup f_block_of = some ⟨oc_block_of, od_block_of, .func (PySem.W.fnOf "block_of" "block_of" (defArgs s_block_of) (defBody s_block_of) (defScope s_block_of) .none kV_block_of dc_block_of pm_block_of an_block_of cd_block_of ct_block_of), sl_block_of⟩)
    (zd_block_of : PySem.W.codeIn K cd_block_of "block_of" = true)
    (zk_block_of : PySem.W.keepIn K (.ref f_block_of) = true)
    (za_row_of : PySem.W.nsIn K mainGlobals "row_of" = some (some (.ref f_row_of)))
    (zl_row_of : K.lookup f_row_of = some ⟨oc_row_of, od_row_of, .func (PySem.W.fnOf "row_of" "row_of" (defArgs s_row_of) (defBody s_row_of) (defScope s_row_of) .none kV_row_of dc_row_of pm_row_of an_row_of cd_row_of ct_row_of), sl_row_of⟩)
    (zd_row_of : PySem.W.codeIn K cd_row_of "row_of" = true)
    (zk_row_of : PySem.W.keepIn K (.ref f_row_of) = true)
    (za_Over_init : PySem.W.findIn K (.ref a_Over) "__init__" = some (some (.ref f_Over_init)))
    (zi_Over_init : PySem.W.isFn K (.ref f_Over_init) = true)
    (zl_Over_init : K.lookup f_Over_init = some ⟨oc_Over_init, od_Over_init, .func (PySem.W.fnOf "__init__" "Over.__init__" (defArgs s_Over_init) (defBody s_Over_init) (defScope s_Over_init) .none kV_Over_init dc_Over_init pm_Over_init an_Over_init cd_Over_init ct_Over_init), sl_Over_init⟩)
    (zd_Over_init : PySem.W.codeIn K cd_Over_init "Over.__init__" = true)
    (zk_Over_init : PySem.W.keepIn K (.ref f_Over_init) = true)
    (za_reckoned : PySem.W.nsIn K mainGlobals "reckoned" = some (some (.ref f_reckoned)))
    (zl_reckoned : K.lookup f_reckoned = some ⟨oc_reckoned, od_reckoned, .func (PySem.W.fnOf "reckoned" "reckoned" (defArgs s_reckoned) (defBody s_reckoned) (defScope s_reckoned) .none kV_reckoned dc_reckoned pm_reckoned an_reckoned cd_reckoned ct_reckoned), sl_reckoned⟩)
    (zd_reckoned : PySem.W.codeIn K cd_reckoned "reckoned" = true)
    (zk_reckoned : PySem.W.keepIn K (.ref f_reckoned) = true)
    (zm_Teller_ticked : PySem.W.findIn K (.ref a_Teller) "ticked" = some (some (.ref f_Teller_ticked)))
    (zi_Teller_ticked : PySem.W.isFn K (.ref f_Teller_ticked) = true)
    (zl_Teller_ticked : K.lookup f_Teller_ticked = some ⟨oc_Teller_ticked, od_Teller_ticked, .func (PySem.W.fnOf "ticked" "Teller.ticked" (defArgs s_Teller_ticked) (defBody s_Teller_ticked) (defScope s_Teller_ticked) .none kV_Teller_ticked dc_Teller_ticked pm_Teller_ticked an_Teller_ticked cd_Teller_ticked ct_Teller_ticked), sl_Teller_ticked⟩)
    (zd_Teller_ticked : PySem.W.codeIn K cd_Teller_ticked "Teller.ticked" = true)
    (zk_Teller_ticked : PySem.W.keepIn K (.ref f_Teller_ticked) = true)
    (zm_Teller_worth : PySem.W.findIn K (.ref a_Teller) "worth" = some (some (.ref f_Teller_worth)))
    (zi_Teller_worth : PySem.W.isFn K (.ref f_Teller_worth) = true)
    (zl_Teller_worth : K.lookup f_Teller_worth = some ⟨oc_Teller_worth, od_Teller_worth, .func (PySem.W.fnOf "worth" "Teller.worth" (defArgs s_Teller_worth) (defBody s_Teller_worth) (defScope s_Teller_worth) .none kV_Teller_worth dc_Teller_worth pm_Teller_worth an_Teller_worth cd_Teller_worth ct_Teller_worth), sl_Teller_worth⟩)
    (zd_Teller_worth : PySem.W.codeIn K cd_Teller_worth "Teller.worth" = true)
    (zk_Teller_worth : PySem.W.keepIn K (.ref f_Teller_worth) = true)
    (zm_Teller_numbered : PySem.W.findIn K (.ref a_Teller) "numbered" = some (some (.ref f_Teller_numbered)))
    (zi_Teller_numbered : PySem.W.isFn K (.ref f_Teller_numbered) = true)
    (zl_Teller_numbered : K.lookup f_Teller_numbered = some ⟨oc_Teller_numbered, od_Teller_numbered, .func (PySem.W.fnOf "numbered" "Teller.numbered" (defArgs s_Teller_numbered) (defBody s_Teller_numbered) (defScope s_Teller_numbered) .none kV_Teller_numbered dc_Teller_numbered pm_Teller_numbered an_Teller_numbered cd_Teller_numbered ct_Teller_numbered), sl_Teller_numbered⟩)
    (zd_Teller_numbered : PySem.W.codeIn K cd_Teller_numbered "Teller.numbered" = true)
    (zk_Teller_numbered : PySem.W.keepIn K (.ref f_Teller_numbered) = true)
    (zm_Teller_blocked : PySem.W.findIn K (.ref a_Teller) "blocked" = some (some (.ref f_Teller_blocked)))
    (zi_Teller_blocked : PySem.W.isFn K (.ref f_Teller_blocked) = true)
    (zl_Teller_blocked : K.lookup f_Teller_blocked = some ⟨oc_Teller_blocked, od_Teller_blocked, .func (PySem.W.fnOf "blocked" "Teller.blocked" (defArgs s_Teller_blocked) (defBody s_Teller_blocked) (defScope s_Teller_blocked) .none kV_Teller_blocked dc_Teller_blocked pm_Teller_blocked an_Teller_blocked cd_Teller_blocked ct_Teller_blocked), sl_Teller_blocked⟩)
    (zd_Teller_blocked : PySem.W.codeIn K cd_Teller_blocked "Teller.blocked" = true)
    (zk_Teller_blocked : PySem.W.keepIn K (.ref f_Teller_blocked) = true)
    (zm_Teller_done : PySem.W.findIn K (.ref a_Teller) "done" = some (some (.ref f_Teller_done)))
    (zi_Teller_done : PySem.W.isFn K (.ref f_Teller_done) = true)
    (zl_Teller_done : K.lookup f_Teller_done = some ⟨oc_Teller_done, od_Teller_done, .func (PySem.W.fnOf "done" "Teller.done" (defArgs s_Teller_done) (defBody s_Teller_done) (defScope s_Teller_done) .none kV_Teller_done dc_Teller_done pm_Teller_done an_Teller_done cd_Teller_done ct_Teller_done), sl_Teller_done⟩)
    (zd_Teller_done : PySem.W.codeIn K cd_Teller_done "Teller.done" = true)
    (zk_Teller_done : PySem.W.keepIn K (.ref f_Teller_done) = true)
    (zm_Teller_went : PySem.W.findIn K (.ref a_Teller) "went" = some (some (.ref f_Teller_went)))
    (zi_Teller_went : PySem.W.isFn K (.ref f_Teller_went) = true)
    (zl_Teller_went : K.lookup f_Teller_went = some ⟨oc_Teller_went, od_Teller_went, .func (PySem.W.fnOf "went" "Teller.went" (defArgs s_Teller_went) (defBody s_Teller_went) (defScope s_Teller_went) .none kV_Teller_went dc_Teller_went pm_Teller_went an_Teller_went cd_Teller_went ct_Teller_went), sl_Teller_went⟩)
    (zd_Teller_went : PySem.W.codeIn K cd_Teller_went "Teller.went" = true)
    (zk_Teller_went : PySem.W.keepIn K (.ref f_Teller_went) = true)
    (zm_Teller_ran : PySem.W.findIn K (.ref a_Teller) "ran" = some (some (.ref f_Teller_ran)))
    (zi_Teller_ran : PySem.W.isFn K (.ref f_Teller_ran) = true)
    (zl_Teller_ran : K.lookup f_Teller_ran = some ⟨oc_Teller_ran, od_Teller_ran, .func (PySem.W.fnOf "ran" "Teller.ran" (defArgs s_Teller_ran) (defBody s_Teller_ran) (defScope s_Teller_ran) .none kV_Teller_ran dc_Teller_ran pm_Teller_ran an_Teller_ran cd_Teller_ran ct_Teller_ran), sl_Teller_ran⟩)
    (zd_Teller_ran : PySem.W.codeIn K cd_Teller_ran "Teller.ran" = true)
    (zk_Teller_ran : PySem.W.keepIn K (.ref f_Teller_ran) = true)
    (zm_World_many : PySem.W.findIn K (.ref a_World) "many" = some (some (.ref f_World_many)))
    (zi_World_many : PySem.W.isFn K (.ref f_World_many) = true)
    (zl_World_many : K.lookup f_World_many = some ⟨oc_World_many, od_World_many, .func (PySem.W.fnOf "many" "World.many" (defArgs s_World_many) (defBody s_World_many) (defScope s_World_many) .none kV_World_many dc_World_many pm_World_many an_World_many cd_World_many ct_World_many), sl_World_many⟩)
    (zd_World_many : PySem.W.codeIn K cd_World_many "World.many" = true)
    (zk_World_many : PySem.W.keepIn K (.ref f_World_many) = true)
    (za_run_of : PySem.W.nsIn K mainGlobals "run_of" = some (some (.ref f_run_of)))
    (zl_run_of : K.lookup f_run_of = some ⟨oc_run_of, od_run_of, .func (PySem.W.fnOf "run_of" "run_of" (defArgs s_run_of) (defBody s_run_of) (defScope s_run_of) .none kV_run_of dc_run_of pm_run_of an_run_of cd_run_of ct_run_of), sl_run_of⟩)
    (zd_run_of : PySem.W.codeIn K cd_run_of "run_of" = true)
    (zk_run_of : PySem.W.keepIn K (.ref f_run_of) = true)
    (za_told_of : PySem.W.nsIn K mainGlobals "told_of" = some (some (.ref f_told_of)))
    (zl_told_of : K.lookup f_told_of = some ⟨oc_told_of, od_told_of, .func (PySem.W.fnOf "told_of" "told_of" (defArgs s_told_of) (defBody s_told_of) (defScope s_told_of) .none kV_told_of dc_told_of pm_told_of an_told_of cd_told_of ct_told_of), sl_told_of⟩)
    (zd_told_of : PySem.W.codeIn K cd_told_of "told_of" = true)
    (zk_told_of : PySem.W.keepIn K (.ref f_told_of) = true)
    (za_world_of : PySem.W.nsIn K mainGlobals "world_of" = some (some (.ref f_world_of)))
    (zl_world_of : K.lookup f_world_of = some ⟨oc_world_of, od_world_of, .func (PySem.W.fnOf "world_of" "world_of" (defArgs s_world_of) (defBody s_world_of) (defScope s_world_of) .none kV_world_of dc_world_of pm_world_of an_world_of cd_world_of ct_world_of), sl_world_of⟩)
    (zd_world_of : PySem.W.codeIn K cd_world_of "world_of" = true)
    (zk_world_of : PySem.W.keepIn K (.ref f_world_of) = true)
    (za_l_draw : PySem.W.nsIn K mainGlobals "_law_draw" = some (some (.ref f_l_draw)))
    (zl_l_draw : K.lookup f_l_draw = some ⟨oc_l_draw, od_l_draw, .func (PySem.W.fnOf "_law_draw" "_law_draw" (defArgs s_l_draw) (defBody s_l_draw) (defScope s_l_draw) .none kV_l_draw dc_l_draw pm_l_draw an_l_draw cd_l_draw ct_l_draw), sl_l_draw⟩)
    (zd_l_draw : PySem.W.codeIn K cd_l_draw "_law_draw" = true)
    (zk_l_draw : PySem.W.keepIn K (.ref f_l_draw) = true)
    (za_l_pick : PySem.W.nsIn K mainGlobals "_law_pick" = some (some (.ref f_l_pick)))
    (zl_l_pick : K.lookup f_l_pick = some ⟨oc_l_pick, od_l_pick, .func (PySem.W.fnOf "_law_pick" "_law_pick" (defArgs s_l_pick) (defBody s_l_pick) (defScope s_l_pick) .none kV_l_pick dc_l_pick pm_l_pick an_l_pick cd_l_pick ct_l_pick), sl_l_pick⟩)
    (zd_l_pick : PySem.W.codeIn K cd_l_pick "_law_pick" = true)
    (zk_l_pick : PySem.W.keepIn K (.ref f_l_pick) = true)
    (za_l_made : PySem.W.nsIn K mainGlobals "_law_made" = some (some (.ref f_l_made)))
    (zl_l_made : K.lookup f_l_made = some ⟨oc_l_made, od_l_made, .func (PySem.W.fnOf "_law_made" "_law_made" (defArgs s_l_made) (defBody s_l_made) (defScope s_l_made) .none kV_l_made dc_l_made pm_l_made an_l_made cd_l_made ct_l_made), sl_l_made⟩)
    (zd_l_made : PySem.W.codeIn K cd_l_made "_law_made" = true)
    (zk_l_made : PySem.W.keepIn K (.ref f_l_made) = true)
    (za_l_alike : PySem.W.nsIn K mainGlobals "_law_alike" = some (some (.ref f_l_alike)))
    (zl_l_alike : K.lookup f_l_alike = some ⟨oc_l_alike, od_l_alike, .func (PySem.W.fnOf "_law_alike" "_law_alike" (defArgs s_l_alike) (defBody s_l_alike) (defScope s_l_alike) .none kV_l_alike dc_l_alike pm_l_alike an_l_alike cd_l_alike ct_l_alike), sl_l_alike⟩)
    (zd_l_alike : PySem.W.codeIn K cd_l_alike "_law_alike" = true)
    (zk_l_alike : PySem.W.keepIn K (.ref f_l_alike) = true)
    (za_l_atom : PySem.W.nsIn K mainGlobals "_law_atom" = some (some (.ref f_l_atom)))
    (zl_l_atom : K.lookup f_l_atom = some ⟨oc_l_atom, od_l_atom, .func (PySem.W.fnOf "_law_atom" "_law_atom" (defArgs s_l_atom) (defBody s_l_atom) (defScope s_l_atom) .none kV_l_atom dc_l_atom pm_l_atom an_l_atom cd_l_atom ct_l_atom), sl_l_atom⟩)
    (zd_l_atom : PySem.W.codeIn K cd_l_atom "_law_atom" = true)
    (zk_l_atom : PySem.W.keepIn K (.ref f_l_atom) = true)
    (za_l_rows : PySem.W.nsIn K mainGlobals "_law_rows" = some (some (.ref f_l_rows)))
    (zl_l_rows : K.lookup f_l_rows = some ⟨oc_l_rows, od_l_rows, .func (PySem.W.fnOf "_law_rows" "_law_rows" (defArgs s_l_rows) (defBody s_l_rows) (defScope s_l_rows) .none kV_l_rows dc_l_rows pm_l_rows an_l_rows cd_l_rows ct_l_rows), sl_l_rows⟩)
    (zd_l_rows : PySem.W.codeIn K cd_l_rows "_law_rows" = true)
    (zk_l_rows : PySem.W.keepIn K (.ref f_l_rows) = true)
    (za_l_value : PySem.W.nsIn K mainGlobals "_law_value" = some (some (.ref f_l_value)))
    (zl_l_value : K.lookup f_l_value = some ⟨oc_l_value, od_l_value, .func (PySem.W.fnOf "_law_value" "_law_value" (defArgs s_l_value) (defBody s_l_value) (defScope s_l_value) .none kV_l_value dc_l_value pm_l_value an_l_value cd_l_value ct_l_value), sl_l_value⟩)
    (zd_l_value : PySem.W.codeIn K cd_l_value "_law_value" = true)
    (zk_l_value : PySem.W.keepIn K (.ref f_l_value) = true)
    (za_l_number : PySem.W.nsIn K mainGlobals "_law_number" = some (some (.ref f_l_number)))
    (zl_l_number : K.lookup f_l_number = some ⟨oc_l_number, od_l_number, .func (PySem.W.fnOf "_law_number" "_law_number" (defArgs s_l_number) (defBody s_l_number) (defScope s_l_number) .none kV_l_number dc_l_number pm_l_number an_l_number cd_l_number ct_l_number), sl_l_number⟩)
    (zd_l_number : PySem.W.codeIn K cd_l_number "_law_number" = true)
    (zk_l_number : PySem.W.keepIn K (.ref f_l_number) = true)
    (za_l_walk : PySem.W.nsIn K mainGlobals "_law_walk" = some (some (.ref f_l_walk)))
    (zl_l_walk : K.lookup f_l_walk = some ⟨oc_l_walk, od_l_walk, .func (PySem.W.fnOf "_law_walk" "_law_walk" (defArgs s_l_walk) (defBody s_l_walk) (defScope s_l_walk) .none kV_l_walk dc_l_walk pm_l_walk an_l_walk cd_l_walk ct_l_walk), sl_l_walk⟩)
    (zd_l_walk : PySem.W.codeIn K cd_l_walk "_law_walk" = true)
    (zk_l_walk : PySem.W.keepIn K (.ref f_l_walk) = true)
    (za_law : PySem.W.nsIn K mainGlobals "law" = some (some (.ref f_law)))
    (zl_law : K.lookup f_law = some ⟨oc_law, od_law, .func (PySem.W.fnOf "law" "law" (defArgs s_law) (defBody s_law) (defScope s_law) .none kV_law dc_law pm_law an_law cd_law ct_law), sl_law⟩)
    (zd_law : PySem.W.codeIn K cd_law "law" = true)
    (zk_law : PySem.W.keepIn K (.ref f_law) = true)
    : ∃ fd : FuncData, (∀ (s : Shared) (v : Value), BindsTo s fd ⟨[v], []⟩ [("_law_script", v)]) ∧ ∀ base : Heap, K.In base → base.Ns mainGlobals mg → FnOk l.prog w K mg base CX0 40 fa fd ["_law_script"] (spLaw K) := by
  have e := hfa.symm.trans (PySem.W.mg_of X G za_law)
  cases e
  have F_SetRow_init := fun_mk (st := s_SetRow_init) zl_SetRow_init zd_SetRow_init zk_SetRow_init
  have B_SetRow_init := F_SetRow_init.binds (ps := ["self", "name", "one", "sign", "other"]) fun _ _ _ _ _ _ us hl => match us, hl with | [_, _, _, _, _], _ => rfl
  have F_AskRow_init := fun_mk (st := s_AskRow_init) zl_AskRow_init zd_AskRow_init zk_AskRow_init
  have B_AskRow_init := F_AskRow_init.binds (ps := ["self", "name"]) fun _ _ _ _ _ _ us hl => match us, hl with | [_, _], _ => rfl
  have F_TellRow_init := fun_mk (st := s_TellRow_init) zl_TellRow_init zd_TellRow_init zk_TellRow_init
  have B_TellRow_init := F_TellRow_init.binds (ps := ["self", "atom"]) fun _ _ _ _ _ _ us hl => match us, hl with | [_, _], _ => rfl
  have F_IfRow_init := fun_mk (st := s_IfRow_init) zl_IfRow_init zd_IfRow_init zk_IfRow_init
  have B_IfRow_init := F_IfRow_init.binds (ps := ["self", "atom", "rows", "others"]) fun _ _ _ _ _ _ us hl => match us, hl with | [_, _, _, _], _ => rfl
  have F_WhileRow_init := fun_mk (st := s_WhileRow_init) zl_WhileRow_init zd_WhileRow_init zk_WhileRow_init
  have B_WhileRow_init := F_WhileRow_init.binds (ps := ["self", "atom", "rows"]) fun _ _ _ _ _ _ us hl => match us, hl with | [_, _, _], _ => rfl
  have F_Helper_init := fun_mk (st := s_Helper_init) zl_Helper_init zd_Helper_init zk_Helper_init
  have B_Helper_init := F_Helper_init.binds (ps := ["self", "name", "params", "gives", "rows"]) fun _ _ _ _ _ _ us hl => match us, hl with | [_, _, _, _, _], _ => rfl
  have F_Program_init := fun_mk (st := s_Program_init) zl_Program_init zd_Program_init zk_Program_init
  have B_Program_init := F_Program_init.binds (ps := ["self", "records", "helpers"]) fun _ _ _ _ _ _ us hl => match us, hl with | [_, _, _], _ => rfl
  have F_Teller_init := fun_mk (st := s_Teller_init) zl_Teller_init zd_Teller_init zk_Teller_init
  have B_Teller_init := F_Teller_init.binds (ps := ["self", "program", "inputs", "ticks"]) fun _ _ _ _ _ _ us hl => match us, hl with | [_, _, _, _], _ => rfl
  have F_World_init := fun_mk (st := s_World_init) zl_World_init zd_World_init zk_World_init
  have B_World_init := F_World_init.binds (ps := ["self"]) fun _ _ _ _ _ _ us hl => match us, hl with | [_], _ => rfl
  have F_rows_of := fun_mk (st := s_rows_of) zl_rows_of zd_rows_of zk_rows_of
  have B_rows_of := F_rows_of.binds (ps := ["some"]) fun _ _ _ _ _ _ us hl => match us, hl with | [_], _ => rfl
  have F_block_of := fun_mk (st := s_block_of) zl_block_of zd_block_of zk_block_of
  have B_block_of := F_block_of.binds (ps := ["told"]) fun _ _ _ _ _ _ us hl => match us, hl with | [_], _ => rfl
  have F_row_of := fun_mk (st := s_row_of) zl_row_of zd_row_of zk_row_of
  have B_row_of := F_row_of.binds (ps := ["told"]) fun _ _ _ _ _ _ us hl => match us, hl with | [_], _ => rfl
  have F_Over_init := fun_mk (st := s_Over_init) zl_Over_init zd_Over_init zk_Over_init
  have B_Over_init := F_Over_init.binds (ps := ["self", "how"]) fun _ _ _ _ _ _ us hl => match us, hl with | [_, _], _ => rfl
  have F_reckoned := fun_mk (st := s_reckoned) zl_reckoned zd_reckoned zk_reckoned
  have B_reckoned := F_reckoned.binds (ps := ["one", "sign", "other"]) fun _ _ _ _ _ _ us hl => match us, hl with | [_, _, _], _ => rfl
  have F_Teller_ticked := fun_mk (st := s_Teller_ticked) zl_Teller_ticked zd_Teller_ticked zk_Teller_ticked
  have B_Teller_ticked := F_Teller_ticked.binds (ps := ["self"]) fun _ _ _ _ _ _ us hl => match us, hl with | [_], _ => rfl
  have F_Teller_worth := fun_mk (st := s_Teller_worth) zl_Teller_worth zd_Teller_worth zk_Teller_worth
  have B_Teller_worth := F_Teller_worth.binds (ps := ["self", "frame", "atom"]) fun _ _ _ _ _ _ us hl => match us, hl with | [_, _, _], _ => rfl
  have F_Teller_numbered := fun_mk (st := s_Teller_numbered) zl_Teller_numbered zd_Teller_numbered zk_Teller_numbered
  have B_Teller_numbered := F_Teller_numbered.binds (ps := ["self", "frame", "row"]) fun _ _ _ _ _ _ us hl => match us, hl with | [_, _, _], _ => rfl
  have F_Teller_blocked := fun_mk (st := s_Teller_blocked) zl_Teller_blocked zd_Teller_blocked zk_Teller_blocked
  have B_Teller_blocked := F_Teller_blocked.binds (ps := ["self", "frame", "row"]) fun _ _ _ _ _ _ us hl => match us, hl with | [_, _, _], _ => rfl
  have F_Teller_done := fun_mk (st := s_Teller_done) zl_Teller_done zd_Teller_done zk_Teller_done
  have B_Teller_done := F_Teller_done.binds (ps := ["self", "frame", "row"]) fun _ _ _ _ _ _ us hl => match us, hl with | [_, _, _], _ => rfl
  have F_Teller_went := fun_mk (st := s_Teller_went) zl_Teller_went zd_Teller_went zk_Teller_went
  have B_Teller_went := F_Teller_went.binds (ps := ["self", "frame", "rows"]) fun _ _ _ _ _ _ us hl => match us, hl with | [_, _, _], _ => rfl
  have F_Teller_ran := fun_mk (st := s_Teller_ran) zl_Teller_ran zd_Teller_ran zk_Teller_ran
  have B_Teller_ran := F_Teller_ran.binds (ps := ["self", "helper", "frame"]) fun _ _ _ _ _ _ us hl => match us, hl with | [_, _, _], _ => rfl
  have F_World_many := fun_mk (st := s_World_many) zl_World_many zd_World_many zk_World_many
  have B_World_many := F_World_many.binds (ps := ["self"]) fun _ _ _ _ _ _ us hl => match us, hl with | [_], _ => rfl
  have F_run_of := fun_mk (st := s_run_of) zl_run_of zd_run_of zk_run_of
  have B_run_of := F_run_of.binds (ps := ["program", "inputs", "ticks"]) fun _ _ _ _ _ _ us hl => match us, hl with | [_, _, _], _ => rfl
  have F_told_of := fun_mk (st := s_told_of) zl_told_of zd_told_of zk_told_of
  have B_told_of := F_told_of.binds (ps := ["program", "inputs", "ticks"]) fun _ _ _ _ _ _ us hl => match us, hl with | [_, _, _], _ => rfl
  have F_world_of := fun_mk (st := s_world_of) zl_world_of zd_world_of zk_world_of
  have B_world_of := F_world_of.binds (ps := ["program", "inputs", "ticks"]) fun _ _ _ _ _ _ us hl => match us, hl with | [_, _, _], _ => rfl
  have F_l_draw := fun_mk (st := s_l_draw) zl_l_draw zd_l_draw zk_l_draw
  have B_l_draw := F_l_draw.binds (ps := ["_law_script", "_law_tape", "_law_many"]) fun _ _ _ _ _ _ us hl => match us, hl with | [_, _, _], _ => rfl
  have F_l_pick := fun_mk (st := s_l_pick) zl_l_pick zd_l_pick zk_l_pick
  have B_l_pick := F_l_pick.binds (ps := ["_law_script", "_law_tape", "_law_some"]) fun _ _ _ _ _ _ us hl => match us, hl with | [_, _, _], _ => rfl
  have F_l_made := fun_mk (st := s_l_made) zl_l_made zd_l_made zk_l_made
  have B_l_made := F_l_made.binds (ps := ["_law_told"]) fun _ _ _ _ _ _ us hl => match us, hl with | [_], _ => rfl
  have F_l_alike := fun_mk (st := s_l_alike) zl_l_alike zd_l_alike zk_l_alike
  have B_l_alike := F_l_alike.binds (ps := ["_law_found", "_law_due"]) fun _ _ _ _ _ _ us hl => match us, hl with | [_, _], _ => rfl
  have F_l_atom := fun_mk (st := s_l_atom) zl_l_atom zd_l_atom zk_l_atom
  have B_l_atom := F_l_atom.binds (ps := ["_law_script", "_law_tape"]) fun _ _ _ _ _ _ us hl => match us, hl with | [_, _], _ => rfl
  have F_l_rows := fun_mk (st := s_l_rows) zl_l_rows zd_l_rows zk_l_rows
  have B_l_rows := F_l_rows.binds (ps := ["_law_script", "_law_tape", "_law_deep", "_law_most"]) fun _ _ _ _ _ _ us hl => match us, hl with | [_, _, _, _], _ => rfl
  have F_l_value := fun_mk (st := s_l_value) zl_l_value zd_l_value zk_l_value
  have B_l_value := F_l_value.binds (ps := ["_law_env", "_law_atom_here"]) fun _ _ _ _ _ _ us hl => match us, hl with | [_, _], _ => rfl
  have F_l_number := fun_mk (st := s_l_number) zl_l_number zd_l_number zk_l_number
  have B_l_number := F_l_number.binds (ps := ["_law_run", "_law_env", "_law_told"]) fun _ _ _ _ _ _ us hl => match us, hl with | [_, _, _], _ => rfl
  have F_l_walk := fun_mk (st := s_l_walk) zl_l_walk zd_l_walk zk_l_walk
  have B_l_walk := F_l_walk.binds (ps := ["_law_run", "_law_env", "_law_rows_here"]) fun _ _ _ _ _ _ us hl => match us, hl with | [_, _, _], _ => rfl
  have F_law := fun_mk (st := s_law) zl_law zd_law zk_law
  have B_law := F_law.binds (ps := ["_law_script"]) fun _ _ _ _ _ _ us hl => match us, hl with | [_], _ => rfl
  let T : Tx K mg := {
    n_tuple := PySem.W.mg_none_of X G zn_tuple
    n_list := PySem.W.mg_none_of X G zn_list
    n_Exception := PySem.W.mg_none_of X G zn_Exception
    n_int := PySem.W.mg_none_of X G zn_int
    n_isinstance := PySem.W.mg_none_of X G zn_isinstance
    n_len := PySem.W.mg_none_of X G zn_len
    n_all := PySem.W.mg_none_of X G zn_all
    n_zip := PySem.W.mg_none_of X G zn_zip
    n_bool := PySem.W.mg_none_of X G zn_bool
    n_str := PySem.W.mg_none_of X G zn_str
    n_range := PySem.W.mg_none_of X G zn_range
    a_SetRow := a_SetRow
    c_SetRow := PySem.W.mg_of X G zc_SetRow
    cl_SetRow := ⟨zpg_SetRow, zhd_SetRow, zpo_SetRow, zsa_SetRow⟩
    na_SetRow_name := zna_SetRow_name
    na_SetRow_one := zna_SetRow_one
    na_SetRow_sign := zna_SetRow_sign
    na_SetRow_other := zna_SetRow_other
    a_AskRow := a_AskRow
    c_AskRow := PySem.W.mg_of X G zc_AskRow
    cl_AskRow := ⟨zpg_AskRow, zhd_AskRow, zpo_AskRow, zsa_AskRow⟩
    na_AskRow_name := zna_AskRow_name
    a_TellRow := a_TellRow
    c_TellRow := PySem.W.mg_of X G zc_TellRow
    cl_TellRow := ⟨zpg_TellRow, zhd_TellRow, zpo_TellRow, zsa_TellRow⟩
    na_TellRow_atom := zna_TellRow_atom
    a_IfRow := a_IfRow
    c_IfRow := PySem.W.mg_of X G zc_IfRow
    cl_IfRow := ⟨zpg_IfRow, zhd_IfRow, zpo_IfRow, zsa_IfRow⟩
    na_IfRow_atom := zna_IfRow_atom
    na_IfRow_rows := zna_IfRow_rows
    na_IfRow_others := zna_IfRow_others
    a_WhileRow := a_WhileRow
    c_WhileRow := PySem.W.mg_of X G zc_WhileRow
    cl_WhileRow := ⟨zpg_WhileRow, zhd_WhileRow, zpo_WhileRow, zsa_WhileRow⟩
    na_WhileRow_atom := zna_WhileRow_atom
    na_WhileRow_rows := zna_WhileRow_rows
    a_Helper := a_Helper
    c_Helper := PySem.W.mg_of X G zc_Helper
    cl_Helper := ⟨zpg_Helper, zhd_Helper, zpo_Helper, zsa_Helper⟩
    na_Helper_name := zna_Helper_name
    na_Helper_params := zna_Helper_params
    na_Helper_gives := zna_Helper_gives
    na_Helper_rows := zna_Helper_rows
    a_Program := a_Program
    c_Program := PySem.W.mg_of X G zc_Program
    cl_Program := ⟨zpg_Program, zhd_Program, zpo_Program, zsa_Program⟩
    na_Program_records := zna_Program_records
    na_Program_helpers := zna_Program_helpers
    a_Teller := a_Teller
    c_Teller := PySem.W.mg_of X G zc_Teller
    cl_Teller := ⟨zpg_Teller, zhd_Teller, zpo_Teller, zsa_Teller⟩
    na_Teller_helpers := zna_Teller_helpers
    na_Teller_layouts := zna_Teller_layouts
    na_Teller_world := zna_Teller_world
    na_Teller_inputs := zna_Teller_inputs
    na_Teller_asked := zna_Teller_asked
    na_Teller_ticks := zna_Teller_ticks
    na_Teller_numbers := zna_Teller_numbers
    a_World := a_World
    c_World := PySem.W.mg_of X G zc_World
    cl_World := ⟨zpg_World, zhd_World, zpo_World, zsa_World⟩
    na_World_boxes := zna_World_boxes
    a_Row := a_Row
    c_Row := PySem.W.mg_of X G zc_Row
    cl_Row := ⟨zpg_Row, zhd_Row, zpo_Row, zsa_Row⟩
    m_PRIME := zmc_PRIME.imp fun _ e => PySem.W.mg_of X G e
    f_SetRow_init := f_SetRow_init
    d_SetRow_init := _
    F_SetRow_init := F_SetRow_init
    B_SetRow_init := B_SetRow_init
    Mk_SetRow := ⟨zmk_SetRow, za_SetRow_init, zi_SetRow_init, zkc_SetRow⟩
    f_AskRow_init := f_AskRow_init
    d_AskRow_init := _
    F_AskRow_init := F_AskRow_init
    B_AskRow_init := B_AskRow_init
    Mk_AskRow := ⟨zmk_AskRow, za_AskRow_init, zi_AskRow_init, zkc_AskRow⟩
    f_TellRow_init := f_TellRow_init
    d_TellRow_init := _
    F_TellRow_init := F_TellRow_init
    B_TellRow_init := B_TellRow_init
    Mk_TellRow := ⟨zmk_TellRow, za_TellRow_init, zi_TellRow_init, zkc_TellRow⟩
    f_IfRow_init := f_IfRow_init
    d_IfRow_init := _
    F_IfRow_init := F_IfRow_init
    B_IfRow_init := B_IfRow_init
    Mk_IfRow := ⟨zmk_IfRow, za_IfRow_init, zi_IfRow_init, zkc_IfRow⟩
    f_WhileRow_init := f_WhileRow_init
    d_WhileRow_init := _
    F_WhileRow_init := F_WhileRow_init
    B_WhileRow_init := B_WhileRow_init
    Mk_WhileRow := ⟨zmk_WhileRow, za_WhileRow_init, zi_WhileRow_init, zkc_WhileRow⟩
    f_Helper_init := f_Helper_init
    d_Helper_init := _
    F_Helper_init := F_Helper_init
    B_Helper_init := B_Helper_init
    Mk_Helper := ⟨zmk_Helper, za_Helper_init, zi_Helper_init, zkc_Helper⟩
    f_Program_init := f_Program_init
    d_Program_init := _
    F_Program_init := F_Program_init
    B_Program_init := B_Program_init
    Mk_Program := ⟨zmk_Program, za_Program_init, zi_Program_init, zkc_Program⟩
    f_Teller_init := f_Teller_init
    d_Teller_init := _
    F_Teller_init := F_Teller_init
    B_Teller_init := B_Teller_init
    Mk_Teller := ⟨zmk_Teller, za_Teller_init, zi_Teller_init, zkc_Teller⟩
    f_World_init := f_World_init
    d_World_init := _
    F_World_init := F_World_init
    B_World_init := B_World_init
    Mk_World := ⟨zmk_World, za_World_init, zi_World_init, zkc_World⟩
    f_rows_of := f_rows_of
    d_rows_of := _
    F_rows_of := F_rows_of
    B_rows_of := B_rows_of
    m_rows_of := PySem.W.mg_of X G za_rows_of
    f_block_of := f_block_of
    d_block_of := _
    F_block_of := F_block_of
    B_block_of := B_block_of
    m_block_of := PySem.W.mg_of X G za_block_of
    f_row_of := f_row_of
    d_row_of := _
    F_row_of := F_row_of
    B_row_of := B_row_of
    m_row_of := PySem.W.mg_of X G za_row_of
    f_Over_init := f_Over_init
    d_Over_init := _
    F_Over_init := F_Over_init
    B_Over_init := B_Over_init
    a_Over := a_Over
    c_Over := PySem.W.mg_of X G zc_Over
    ox_Over := ⟨oexXB_ok zox_Over, zsx_Over, zbx_Over, ztx_Over, zkx_Over⟩
    xf_Over := xfB_ok zxf_Over
    iC_Over := za_Over_init
    tI_Over := zti_Over
    xa_Over_how := zxa_Over_how
    em_Over_Over := zmm_Over_Over
    ek_Over_Over := zkk_Over_Over
    f_reckoned := f_reckoned
    d_reckoned := _
    F_reckoned := F_reckoned
    B_reckoned := B_reckoned
    m_reckoned := PySem.W.mg_of X G za_reckoned
    f_Teller_ticked := f_Teller_ticked
    d_Teller_ticked := _
    F_Teller_ticked := F_Teller_ticked
    B_Teller_ticked := B_Teller_ticked
    f_Teller_worth := f_Teller_worth
    d_Teller_worth := _
    F_Teller_worth := F_Teller_worth
    B_Teller_worth := B_Teller_worth
    f_Teller_numbered := f_Teller_numbered
    d_Teller_numbered := _
    F_Teller_numbered := F_Teller_numbered
    B_Teller_numbered := B_Teller_numbered
    f_Teller_blocked := f_Teller_blocked
    d_Teller_blocked := _
    F_Teller_blocked := F_Teller_blocked
    B_Teller_blocked := B_Teller_blocked
    f_Teller_done := f_Teller_done
    d_Teller_done := _
    F_Teller_done := F_Teller_done
    B_Teller_done := B_Teller_done
    f_Teller_went := f_Teller_went
    d_Teller_went := _
    F_Teller_went := F_Teller_went
    B_Teller_went := B_Teller_went
    f_Teller_ran := f_Teller_ran
    d_Teller_ran := _
    F_Teller_ran := F_Teller_ran
    B_Teller_ran := B_Teller_ran
    f_World_many := f_World_many
    d_World_many := _
    F_World_many := F_World_many
    B_World_many := B_World_many
    f_run_of := f_run_of
    d_run_of := _
    F_run_of := F_run_of
    B_run_of := B_run_of
    m_run_of := PySem.W.mg_of X G za_run_of
    f_told_of := f_told_of
    d_told_of := _
    F_told_of := F_told_of
    B_told_of := B_told_of
    m_told_of := PySem.W.mg_of X G za_told_of
    f_world_of := f_world_of
    d_world_of := _
    F_world_of := F_world_of
    B_world_of := B_world_of
    m_world_of := PySem.W.mg_of X G za_world_of
    f_l_draw := f_l_draw
    d_l_draw := _
    F_l_draw := F_l_draw
    B_l_draw := B_l_draw
    m_l_draw := PySem.W.mg_of X G za_l_draw
    f_l_pick := f_l_pick
    d_l_pick := _
    F_l_pick := F_l_pick
    B_l_pick := B_l_pick
    m_l_pick := PySem.W.mg_of X G za_l_pick
    f_l_made := f_l_made
    d_l_made := _
    F_l_made := F_l_made
    B_l_made := B_l_made
    m_l_made := PySem.W.mg_of X G za_l_made
    f_l_alike := f_l_alike
    d_l_alike := _
    F_l_alike := F_l_alike
    B_l_alike := B_l_alike
    m_l_alike := PySem.W.mg_of X G za_l_alike
    f_l_atom := f_l_atom
    d_l_atom := _
    F_l_atom := F_l_atom
    B_l_atom := B_l_atom
    m_l_atom := PySem.W.mg_of X G za_l_atom
    f_l_rows := f_l_rows
    d_l_rows := _
    F_l_rows := F_l_rows
    B_l_rows := B_l_rows
    m_l_rows := PySem.W.mg_of X G za_l_rows
    f_l_value := f_l_value
    d_l_value := _
    F_l_value := F_l_value
    B_l_value := B_l_value
    m_l_value := PySem.W.mg_of X G za_l_value
    f_l_number := f_l_number
    d_l_number := _
    F_l_number := F_l_number
    B_l_number := B_l_number
    m_l_number := PySem.W.mg_of X G za_l_number
    f_l_walk := f_l_walk
    d_l_walk := _
    F_l_walk := F_l_walk
    B_l_walk := B_l_walk
    m_l_walk := PySem.W.mg_of X G za_l_walk
    f_law := fa
    d_law := _
    F_law := F_law
    B_law := B_law
    m_law := PySem.W.mg_of X G za_law
    M_Teller_ticked := ⟨zm_Teller_ticked, zi_Teller_ticked, zk_Teller_ticked⟩
    M_Teller_worth := ⟨zm_Teller_worth, zi_Teller_worth, zk_Teller_worth⟩
    M_Teller_numbered := ⟨zm_Teller_numbered, zi_Teller_numbered, zk_Teller_numbered⟩
    M_Teller_blocked := ⟨zm_Teller_blocked, zi_Teller_blocked, zk_Teller_blocked⟩
    M_Teller_done := ⟨zm_Teller_done, zi_Teller_done, zk_Teller_done⟩
    M_Teller_went := ⟨zm_Teller_went, zi_Teller_went, zk_Teller_went⟩
    M_Teller_ran := ⟨zm_Teller_ran, zi_Teller_ran, zk_Teller_ran⟩
    M_World_many := ⟨zm_World_many, zi_World_many, zk_World_many⟩
    isi := zisi }
  exact ⟨PySem.W.fnOf "law" "law" (defArgs s_law) (defBody s_law) (defScope s_law) .none kV_law dc_law pm_law an_law cd_law ct_law, fun s v => .of_eq rfl, fun base _ _ => ok_law T⟩
theorem facts {l : PySem.W.OpenLaw} {w : World} {K : PySem.W.Frag} {h : Heap} {mg : Str → Option Value} {fa : Addr} (X : K.In h) (G : h.Ns mainGlobals mg) (hfa : mg "law" = some (.ref fa)) (c : SaysK K) :
    ∃ fd : FuncData, (∀ (s : Shared) (v : Value), BindsTo s fd ⟨[v], []⟩ [("_law_script", v)]) ∧ ∀ base : Heap, K.In base → base.Ns mainGlobals mg → FnOk l.prog w K mg base CX0 40 fa fd ["_law_script"] (spLaw K) := by
  obtain ⟨_, _, _, _, _, _, _, _, _, zl_SetRow_init, zd_SetRow_init⟩ := saysD c (d := hd_SetRow_init) (List.mem_of_getElem? (i := 0) (by rfl))
  obtain ⟨_, _, _, _, _, _, _, _, _, zl_AskRow_init, zd_AskRow_init⟩ := saysD c (d := hd_AskRow_init) (List.mem_of_getElem? (i := 1) (by rfl))
  obtain ⟨_, _, _, _, _, _, _, _, _, zl_TellRow_init, zd_TellRow_init⟩ := saysD c (d := hd_TellRow_init) (List.mem_of_getElem? (i := 2) (by rfl))
  obtain ⟨_, _, _, _, _, _, _, _, _, zl_IfRow_init, zd_IfRow_init⟩ := saysD c (d := hd_IfRow_init) (List.mem_of_getElem? (i := 3) (by rfl))
  obtain ⟨_, _, _, _, _, _, _, _, _, zl_WhileRow_init, zd_WhileRow_init⟩ := saysD c (d := hd_WhileRow_init) (List.mem_of_getElem? (i := 4) (by rfl))
  obtain ⟨_, _, _, _, _, _, _, _, _, zl_Helper_init, zd_Helper_init⟩ := saysD c (d := hd_Helper_init) (List.mem_of_getElem? (i := 5) (by rfl))
  obtain ⟨_, _, _, _, _, _, _, _, _, zl_Program_init, zd_Program_init⟩ := saysD c (d := hd_Program_init) (List.mem_of_getElem? (i := 6) (by rfl))
  obtain ⟨_, _, _, _, _, _, _, _, _, zl_Teller_init, zd_Teller_init⟩ := saysD c (d := hd_Teller_init) (List.mem_of_getElem? (i := 7) (by rfl))
  obtain ⟨_, _, _, _, _, _, _, _, _, zl_World_init, zd_World_init⟩ := saysD c (d := hd_World_init) (List.mem_of_getElem? (i := 8) (by rfl))
  obtain ⟨_, _, _, _, _, _, _, _, _, zl_rows_of, zd_rows_of⟩ := saysD c (d := hd_rows_of) (List.mem_of_getElem? (i := 9) (by rfl))
  obtain ⟨_, _, _, _, _, _, _, _, _, zl_block_of, zd_block_of⟩ := saysD c (d := hd_block_of) (List.mem_of_getElem? (i := 10) (by rfl))
  obtain ⟨_, _, _, _, _, _, _, _, _, zl_row_of, zd_row_of⟩ := saysD c (d := hd_row_of) (List.mem_of_getElem? (i := 11) (by rfl))
  obtain ⟨_, _, _, _, _, _, _, _, _, zl_Over_init, zd_Over_init⟩ := saysD c (d := hd_Over_init) (List.mem_of_getElem? (i := 12) (by rfl))
  obtain ⟨_, _, _, _, _, _, _, _, _, zl_reckoned, zd_reckoned⟩ := saysD c (d := hd_reckoned) (List.mem_of_getElem? (i := 13) (by rfl))
  obtain ⟨_, _, _, _, _, _, _, _, _, zl_Teller_ticked, zd_Teller_ticked⟩ := saysD c (d := hd_Teller_ticked) (List.mem_of_getElem? (i := 14) (by rfl))
  obtain ⟨_, _, _, _, _, _, _, _, _, zl_Teller_worth, zd_Teller_worth⟩ := saysD c (d := hd_Teller_worth) (List.mem_of_getElem? (i := 15) (by rfl))
  obtain ⟨_, _, _, _, _, _, _, _, _, zl_Teller_numbered, zd_Teller_numbered⟩ := saysD c (d := hd_Teller_numbered) (List.mem_of_getElem? (i := 16) (by rfl))
  obtain ⟨_, _, _, _, _, _, _, _, _, zl_Teller_blocked, zd_Teller_blocked⟩ := saysD c (d := hd_Teller_blocked) (List.mem_of_getElem? (i := 17) (by rfl))
  obtain ⟨_, _, _, _, _, _, _, _, _, zl_Teller_done, zd_Teller_done⟩ := saysD c (d := hd_Teller_done) (List.mem_of_getElem? (i := 18) (by rfl))
  obtain ⟨_, _, _, _, _, _, _, _, _, zl_Teller_went, zd_Teller_went⟩ := saysD c (d := hd_Teller_went) (List.mem_of_getElem? (i := 19) (by rfl))
  obtain ⟨_, _, _, _, _, _, _, _, _, zl_Teller_ran, zd_Teller_ran⟩ := saysD c (d := hd_Teller_ran) (List.mem_of_getElem? (i := 20) (by rfl))
  obtain ⟨_, _, _, _, _, _, _, _, _, zl_World_many, zd_World_many⟩ := saysD c (d := hd_World_many) (List.mem_of_getElem? (i := 21) (by rfl))
  obtain ⟨_, _, _, _, _, _, _, _, _, zl_run_of, zd_run_of⟩ := saysD c (d := hd_run_of) (List.mem_of_getElem? (i := 22) (by rfl))
  obtain ⟨_, _, _, _, _, _, _, _, _, zl_told_of, zd_told_of⟩ := saysD c (d := hd_told_of) (List.mem_of_getElem? (i := 23) (by rfl))
  obtain ⟨_, _, _, _, _, _, _, _, _, zl_world_of, zd_world_of⟩ := saysD c (d := hd_world_of) (List.mem_of_getElem? (i := 24) (by rfl))
  obtain ⟨_, _, _, _, _, _, _, _, _, zl_l_draw, zd_l_draw⟩ := saysD c (d := hd_l_draw) (List.mem_of_getElem? (i := 25) (by rfl))
  obtain ⟨_, _, _, _, _, _, _, _, _, zl_l_pick, zd_l_pick⟩ := saysD c (d := hd_l_pick) (List.mem_of_getElem? (i := 26) (by rfl))
  obtain ⟨_, _, _, _, _, _, _, _, _, zl_l_made, zd_l_made⟩ := saysD c (d := hd_l_made) (List.mem_of_getElem? (i := 27) (by rfl))
  obtain ⟨_, _, _, _, _, _, _, _, _, zl_l_alike, zd_l_alike⟩ := saysD c (d := hd_l_alike) (List.mem_of_getElem? (i := 28) (by rfl))
  obtain ⟨_, _, _, _, _, _, _, _, _, zl_l_atom, zd_l_atom⟩ := saysD c (d := hd_l_atom) (List.mem_of_getElem? (i := 29) (by rfl))
  obtain ⟨_, _, _, _, _, _, _, _, _, zl_l_rows, zd_l_rows⟩ := saysD c (d := hd_l_rows) (List.mem_of_getElem? (i := 30) (by rfl))
  obtain ⟨_, _, _, _, _, _, _, _, _, zl_l_value, zd_l_value⟩ := saysD c (d := hd_l_value) (List.mem_of_getElem? (i := 31) (by rfl))
  obtain ⟨_, _, _, _, _, _, _, _, _, zl_l_number, zd_l_number⟩ := saysD c (d := hd_l_number) (List.mem_of_getElem? (i := 32) (by rfl))
  obtain ⟨_, _, _, _, _, _, _, _, _, zl_l_walk, zd_l_walk⟩ := saysD c (d := hd_l_walk) (List.mem_of_getElem? (i := 33) (by rfl))
  obtain ⟨_, _, _, _, _, _, _, _, _, zl_law, zd_law⟩ := saysD c (d := hd_law) (List.mem_of_getElem? (i := 34) (by rfl))
  exact all_mk X G hfa (He.eqO_ok (hfact0 c 0)) (He.eqO_ok (hfact0 c 1)) (He.eqO_ok (hfact0 c 2)) (He.eqO_ok (hfact0 c 3)) (He.eqO_ok (hfact0 c 4)) (He.eqO_ok (hfact0 c 5)) (He.eqO_ok (hfact0 c 6)) (He.eqO_ok (hfact0 c 7)) (He.eqO_ok (hfact0 c 8)) (He.eqO_ok (hfact0 c 9)) (He.eqO_ok (hfact0 c 10)) (He.eqO_ok (hfact0 c 11)) (hfact0 c 12) (hfact0 c 13) (hfact0 c 14) (He.eqO_ok (hfact0 c 15)) (hfact0 c 16) (hfact0 c 17) (He.eqO_ok (hfact0 c 18)) (He.eqO_ok (hfact0 c 19)) (He.eqO_ok (hfact0 c 20)) (He.eqO_ok (hfact0 c 21)) (He.eqO_ok (hfact0 c 22)) (hfact0 c 23) (hfact0 c 24) (hfact1 c 0) (He.eqO_ok (hfact1 c 1)) (hfact1 c 2) (hfact1 c 3) (He.eqO_ok (hfact1 c 4)) (He.eqO_ok (hfact1 c 5)) (hfact1 c 6) (hfact1 c 7) (hfact1 c 8) (He.eqO_ok (hfact1 c 9)) (hfact1 c 10) (hfact1 c 11) (He.eqO_ok (hfact1 c 12)) (He.eqO_ok (hfact1 c 13)) (hfact1 c 14) (hfact1 c 15) (hfact1 c 16) (He.eqO_ok (hfact1 c 17)) (hfact1 c 18) (hfact1 c 19) (He.eqO_ok (hfact1 c 20)) (He.eqO_ok (hfact1 c 21)) (He.eqO_ok (hfact1 c 22)) (He.eqO_ok (hfact1 c 23)) (hfact1 c 24) (hfact2 c 0) (hfact2 c 1) (He.eqO_ok (hfact2 c 2)) (hfact2 c 3) (hfact2 c 4) (He.eqO_ok (hfact2 c 5)) (He.eqO_ok (hfact2 c 6)) (He.eqO_ok (hfact2 c 7)) (hfact2 c 8) (hfact2 c 9) (hfact2 c 10) (He.eqO_ok (hfact2 c 11)) (hfact2 c 12) (hfact2 c 13) (He.eqO_ok (hfact2 c 14)) (He.eqO_ok (hfact2 c 15)) (He.eqO_ok (hfact2 c 16)) (He.eqO_ok (hfact2 c 17)) (He.eqO_ok (hfact2 c 18)) (hfact2 c 19) (hfact2 c 20) (hfact2 c 21) (He.eqO_ok (hfact2 c 22)) (hfact2 c 23) (hfact2 c 24) (He.eqO_ok (hfact3 c 0)) (He.eqO_ok (hfact3 c 1)) (He.eqO_ok (hfact3 c 2)) (hfact3 c 3) (hfact3 c 4) (hfact3 c 5) (He.eqO_ok (hfact3 c 6)) (hfact3 c 7) (hfact3 c 8) (He.eqO_ok (hfact3 c 9)) (He.eqO_ok (hfact3 c 10)) (He.eqO_ok (hfact3 c 11)) (He.eqO_ok (hfact3 c 12)) (He.eqO_ok (hfact3 c 13)) (He.eqO_ok (hfact3 c 14)) (He.eqO_ok (hfact3 c 15)) (He.eqO_ok (hfact3 c 16)) (hfact3 c 17) (hfact3 c 18) (hfact3 c 19) (He.eqO_ok (hfact3 c 20)) (hfact3 c 21) (hfact3 c 22) (He.eqO_ok (hfact3 c 23)) (He.eqO_ok (hfact3 c 24)) (hfact4 c 0) (hfact4 c 1) (hfact4 c 2) (He.eqO_ok (hfact4 c 3)) (He.eqO_ok (hfact4 c 4)) (hfact4 c 5) (hfact4 c 6) (He.eqO_ok (hfact4 c 7)) (eqB_ok (hfact4 c 8)) (eqB_ok (hfact4 c 9)) (hfact4 c 10) (eqB_ok (hfact4 c 11)) (He.eqO_ok (hfact4 c 12)) (eqB_ok (hfact4 c 13)) (eqB_ok (hfact4 c 14)) (intIs_ok (hfact4 c 15)) (hfact4 c 16) (He.eqO_ok (hfact4 c 17)) (hfact4 c 18) zl_SetRow_init zd_SetRow_init (hfact4 c 19) (He.eqO_ok (hfact4 c 20)) (hfact4 c 21) zl_AskRow_init zd_AskRow_init (hfact4 c 22) (He.eqO_ok (hfact4 c 23)) (hfact4 c 24) zl_TellRow_init zd_TellRow_init (hfact5 c 0) (He.eqO_ok (hfact5 c 1)) (hfact5 c 2) zl_IfRow_init zd_IfRow_init (hfact5 c 3) (He.eqO_ok (hfact5 c 4)) (hfact5 c 5) zl_WhileRow_init zd_WhileRow_init (hfact5 c 6) (He.eqO_ok (hfact5 c 7)) (hfact5 c 8) zl_Helper_init zd_Helper_init (hfact5 c 9) (He.eqO_ok (hfact5 c 10)) (hfact5 c 11) zl_Program_init zd_Program_init (hfact5 c 12) (He.eqO_ok (hfact5 c 13)) (hfact5 c 14) zl_Teller_init zd_Teller_init (hfact5 c 15) (He.eqO_ok (hfact5 c 16)) (hfact5 c 17) zl_World_init zd_World_init (hfact5 c 18) (He.eqO_ok (hfact5 c 19)) zl_rows_of zd_rows_of (hfact5 c 20) (He.eqO_ok (hfact5 c 21)) zl_block_of zd_block_of (hfact5 c 22) (He.eqO_ok (hfact5 c 23)) zl_row_of zd_row_of (hfact5 c 24) (He.eqO_ok (hfact6 c 0)) (hfact6 c 1) zl_Over_init zd_Over_init (hfact6 c 2) (He.eqO_ok (hfact6 c 3)) zl_reckoned zd_reckoned (hfact6 c 4) (He.eqO_ok (hfact6 c 5)) (hfact6 c 6) zl_Teller_ticked zd_Teller_ticked (hfact6 c 7) (He.eqO_ok (hfact6 c 8)) (hfact6 c 9) zl_Teller_worth zd_Teller_worth (hfact6 c 10) (He.eqO_ok (hfact6 c 11)) (hfact6 c 12) zl_Teller_numbered zd_Teller_numbered (hfact6 c 13) (He.eqO_ok (hfact6 c 14)) (hfact6 c 15) zl_Teller_blocked zd_Teller_blocked (hfact6 c 16) (He.eqO_ok (hfact6 c 17)) (hfact6 c 18) zl_Teller_done zd_Teller_done (hfact6 c 19) (He.eqO_ok (hfact6 c 20)) (hfact6 c 21) zl_Teller_went zd_Teller_went (hfact6 c 22) (He.eqO_ok (hfact6 c 23)) (hfact6 c 24) zl_Teller_ran zd_Teller_ran (hfact7 c 0) (He.eqO_ok (hfact7 c 1)) (hfact7 c 2) zl_World_many zd_World_many (hfact7 c 3) (He.eqO_ok (hfact7 c 4)) zl_run_of zd_run_of (hfact7 c 5) (He.eqO_ok (hfact7 c 6)) zl_told_of zd_told_of (hfact7 c 7) (He.eqO_ok (hfact7 c 8)) zl_world_of zd_world_of (hfact7 c 9) (He.eqO_ok (hfact7 c 10)) zl_l_draw zd_l_draw (hfact7 c 11) (He.eqO_ok (hfact7 c 12)) zl_l_pick zd_l_pick (hfact7 c 13) (He.eqO_ok (hfact7 c 14)) zl_l_made zd_l_made (hfact7 c 15) (He.eqO_ok (hfact7 c 16)) zl_l_alike zd_l_alike (hfact7 c 17) (He.eqO_ok (hfact7 c 18)) zl_l_atom zd_l_atom (hfact7 c 19) (He.eqO_ok (hfact7 c 20)) zl_l_rows zd_l_rows (hfact7 c 21) (He.eqO_ok (hfact7 c 22)) zl_l_value zd_l_value (hfact7 c 23) (He.eqO_ok (hfact7 c 24)) zl_l_number zd_l_number (hfact8 c 0) (He.eqO_ok (hfact8 c 1)) zl_l_walk zd_l_walk (hfact8 c 2) (He.eqO_ok (hfact8 c 3)) zl_law zd_law (hfact8 c 4)
end My
theorem PySem.Challenge.cw_holders_k52_numbers_holds : PySem.Challenge.rw_holders_k52_numbers.Holds := by
  exact skel_end fun w K h mg fa X G hfa c => My.facts X G hfa c

