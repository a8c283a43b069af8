import PyProof.Rows.All
import Wide.All
import OpenK.AllK
import Wide.FinOn
import HandS.ForMost
import HandS.More
import HandS.IsInst
import HandS.Strs
import HandS.SetFor
import HandS.Wide
import PySem.Challenge.RW_holders_k84_came_to
set_option Elab.async false
set_option maxRecDepth 100000
set_option maxHeartbeats 4000000
namespace My
open PySem L2
/-! ### rows as data, ways through them -/
inductive RW where
  | tick | back | num
  | jump (t : Nat)
  | zero (a : Int) (t : Nat)
  deriving DecidableEq
/-- the rows that may come behind a row at a place -/
def RW.nx : RW → Nat → List Nat
  | .back, _ => []
  | .jump t, _ => [t]
  | .zero _ t, k => [k + 1, t]
  | _, k => [k + 1]
/-- the same as the law writes them -/
def RW.lw : RW → Nat → List Nat
  | .back, _ => []
  | .jump t, _ => [t]
  | .zero _ t, k => [t, k + 1]
  | _, k => [k + 1]
theorem lw_nx (r : RW) (k j : Nat) : j ∈ r.lw k ↔ j ∈ r.nx k := by
  cases r <;> simp [RW.lw, RW.nx, or_comm]
theorem lw_len (r : RW) (k : Nat) : (r.lw k).length ≤ 2 := by cases r <;> simp [RW.lw]
inductive Rch (rs : List RW) : Nat → Prop where
  | base : Rch rs 0
  | step {k j : Nat} {r : RW} : Rch rs k → rs[k]? = some r → j ∈ r.nx k → Rch rs j
/-- closed under ways -/
def Closed (rs : List RW) (P : Nat → Prop) : Prop := ∀ k r j, P k → rs[k]? = some r → j ∈ r.nx k → j < rs.length → P j
theorem Rch.of_closed {rs : List RW} {P : Nat → Prop} (h0 : 0 < rs.length → P 0) (hc : Closed rs P) : ∀ {k : Nat}, Rch rs k → k < rs.length → P k
  | _, .base, h => h0 h
  | _, .step hk hr hj, h => hc _ _ _ (Rch.of_closed h0 hc hk (List.getElem?_eq_some_iff.mp hr).1) hr hj h
/-- the answer: the rows come to, rising -/
def IsAns (rs : List RW) (ns : List Int) : Prop := ns.Pairwise (· < ·) ∧ ∀ z : Int, z ∈ ns ↔ ∃ k : Nat, z = (k : Int) ∧ k < rs.length ∧ Rch rs k
theorem sorted_ext : ∀ {l m : List Int}, l.Pairwise (· < ·) → m.Pairwise (· < ·) → (∀ z, z ∈ l ↔ z ∈ m) → l = m
  | [], [], _, _, _ => rfl
  | [], b :: m, _, _, h => absurd ((h b).mpr List.mem_cons_self) (by simp)
  | a :: l, [], _, _, h => absurd ((h a).mp List.mem_cons_self) (by simp)
  | a :: l, b :: m, hl, hm, h => by
    have hl' := List.pairwise_cons.mp hl
    have hm' := List.pairwise_cons.mp hm
    have e : a = b := by
      have h1 := (h a).mp List.mem_cons_self
      have h2 := (h b).mpr List.mem_cons_self
      rcases List.mem_cons.mp h1 with e | h1
      · exact e
      rcases List.mem_cons.mp h2 with e | h2
      · exact e.symm
      have := hl'.1 b h2
      have := hm'.1 a h1
      omega
    subst e
    have : l = m := sorted_ext hl'.2 hm'.2 fun z => by
      have hz := h z
      constructor
      · intro hzl
        rcases List.mem_cons.mp (hz.mp (List.mem_cons_of_mem _ hzl)) with e | q
        · have := hl'.1 z hzl
          omega
        · exact q
      · intro hzm
        rcases List.mem_cons.mp (hz.mpr (List.mem_cons_of_mem _ hzm)) with e | q
        · have := hm'.1 z hzm
          omega
        · exact q
    rw [this]
theorem IsAns.uniq {rs : List RW} {l m : List Int} (h : IsAns rs l) (h' : IsAns rs m) : l = m := sorted_ext h.1 h'.1 fun z => (h.2 z).trans (h'.2 z).symm
theorem len_between : ∀ {l : List Int} {lo hi : Int}, l.Pairwise (· < ·) → (∀ z ∈ l, lo ≤ z ∧ z < hi) → lo ≤ hi → (l.length : Int) ≤ hi - lo
  | [], _, _, _, _, h => by simp; omega
  | a :: l, lo, hi, hp, hb, h => by
    have hp' := List.pairwise_cons.mp hp
    have ha := hb a List.mem_cons_self
    have := len_between (l := l) (lo := a + 1) (hi := hi) hp'.2 (fun z hz => ⟨by have := hp'.1 z hz; omega, (hb z (List.mem_cons_of_mem _ hz)).2⟩) (by omega)
    simp only [List.length_cons]
    omega
theorem IsAns.len {rs : List RW} {l : List Int} (h : IsAns rs l) : l.length ≤ rs.length := by
  have := len_between (lo := 0) (hi := (rs.length : Int)) h.1 (fun z hz => by
    obtain ⟨k, e, hk, _⟩ := (h.2 z).mp hz
    omega) (by omega)
  omega

/-! ### came_to: the keys seen, the line of what is still to be looked at -/
structure Seeing (rs : List RW) (ks line : List Nat) : Prop where
  nd : ks.Nodup
  lt : ∀ k ∈ ks, k < rs.length
  rk : ∀ k ∈ ks, Rch rs k
  rl : ∀ k ∈ line, Rch rs k
  zero : 0 ∈ ks ∨ 0 ∈ line ∨ rs.length = 0
  cl : ∀ k r j, k ∈ ks → rs[k]? = some r → j ∈ r.nx k → j < rs.length → j ∈ ks ∨ j ∈ line
theorem nodup_len : ∀ {n : Nat} {l : List Nat}, l.Nodup → (∀ k ∈ l, k < n) → l.length ≤ n
  | 0, [], _, _ => Nat.le_refl _
  | 0, a :: l, _, h => absurd (h a List.mem_cons_self) (by omega)
  | n + 1, l, nd, h => by
    have h1 : (l.filter (· ≠ n)).length ≤ n := nodup_len (nd.filter _) fun k hk => by
      have := List.mem_filter.mp hk
      have h2 := h k this.1
      have h3 : k ≠ n := by simpa using this.2
      omega
    have h2 : l.length = (l.filter (· ≠ n)).length + l.count n := by
      rw [List.count_eq_length_filter]
      induction l with
      | nil => rfl
      | cons a l ih =>
        have ih := ih (List.nodup_cons.mp nd).2 (fun k hk => h k (List.mem_cons_of_mem _ hk)) (by
          refine Nat.le_trans ?_ h1
          rw [List.filter_cons]
          split <;> simp)
        simp only [List.filter_cons, List.length_cons, ih]
        by_cases e : a = n <;> simp [e] <;> omega
    have h3 : l.count n ≤ 1 := List.nodup_iff_count.mp nd n
    omega
theorem Seeing.start (rs : List RW) : Seeing rs [] [0] :=
  ⟨List.nodup_nil, fun _ h => (by cases h), fun _ h => (by cases h), fun k h => by
    have : k = 0 := by simpa using h
    subst this
    exact .base, .inr (.inl (by simp)), fun _ _ _ h => by cases h⟩
/-- the last of the line is passed over -/
theorem Seeing.skip {rs : List RW} {ks line : List Nat} {k : Nat} (S : Seeing rs ks (line ++ [k])) (h : k ∈ ks ∨ rs.length ≤ k) : Seeing rs ks line := by
  refine ⟨S.nd, S.lt, S.rk, fun j hj => S.rl j (List.mem_append_left _ hj), ?_, fun j r i hj hr hi hl => ?_⟩
  · rcases S.zero with z | z | z
    · exact .inl z
    · rcases List.mem_append.mp z with z | z
      · exact .inr (.inl z)
      · have e : 0 = k := by simpa using z
        subst e
        rcases h with h | h
        · exact .inl h
        · exact .inr (.inr (by omega))
    · exact .inr (.inr z)
  · rcases S.cl j r i hj hr hi hl with z | z
    · exact .inl z
    · rcases List.mem_append.mp z with z | z
      · exact .inr z
      · have e : i = k := by simpa using z
        subst e
        rcases h with h | h
        · exact .inl h
        · omega
/-- .. or looked at -/
theorem Seeing.look {rs : List RW} {ks line : List Nat} {k : Nat} {r : RW} (S : Seeing rs ks (line ++ [k])) (hn : k ∉ ks) (hr : rs[k]? = some r) : Seeing rs (ks ++ [k]) (line ++ r.nx k) := by
  have hk : k < rs.length := (List.getElem?_eq_some_iff.mp hr).1
  have rk := S.rl k (by simp)
  refine ⟨?_, fun j hj => ?_, fun j hj => ?_, fun j hj => ?_, ?_, fun j q i hj hq hi hl => ?_⟩
  · rw [List.nodup_append]
    refine ⟨S.nd, by simp, fun a ha b hb => ?_⟩
    have e : b = k := by simpa using hb
    subst e
    exact fun e => hn (e ▸ ha)
  · rcases List.mem_append.mp hj with hj | hj
    · exact S.lt j hj
    · have e : j = k := by simpa using hj
      omega
  · rcases List.mem_append.mp hj with hj | hj
    · exact S.rk j hj
    · have e : j = k := by simpa using hj
      subst e
      exact rk
  · rcases List.mem_append.mp hj with hj | hj
    · exact S.rl j (List.mem_append_left _ hj)
    · exact .step rk hr hj
  · rcases S.zero with z | z | z
    · exact .inl (List.mem_append_left _ z)
    · rcases List.mem_append.mp z with z | z
      · exact .inr (.inl (List.mem_append_left _ z))
      · exact .inl (List.mem_append_right _ z)
    · omega
  · rcases List.mem_append.mp hj with hj | hj
    · rcases S.cl j q i hj hq hi hl with z | z
      · exact .inl (List.mem_append_left _ z)
      · rcases List.mem_append.mp z with z | z
        · exact .inr (List.mem_append_left _ z)
        · exact .inl (List.mem_append_right _ z)
    · have e : j = k := by simpa using hj
      subst e
      rw [hr] at hq
      cases hq
      exact .inr (List.mem_append_right _ hi)
theorem nx_len (r : RW) (k : Nat) : (r.nx k).length ≤ 2 := by cases r <;> simp [RW.nx]
theorem Seeing.done {rs : List RW} {ks : List Nat} {ns : List Int} (S : Seeing rs ks []) (hp : ns.Perm (ks.map fun k : Nat => (k : Int))) (hs : ns.Pairwise (· ≤ ·)) : IsAns rs ns := by
  have nd : ns.Nodup := hp.nodup_iff.mpr (by
    rw [List.nodup_iff_pairwise_ne, List.pairwise_map]
    exact S.nd.imp fun {a b} h => by
      intro e
      exact h (by omega))
  refine ⟨?_, fun z => ?_⟩
  · have := hs.and nd
    exact this.imp fun {a b} h => by
      have h1 := h.1
      have h2 : a ≠ b := h.2
      omega
  · rw [hp.mem_iff, List.mem_map]
    constructor
    · rintro ⟨k, hk, e⟩
      exact ⟨k, e.symm, S.lt k hk, S.rk k hk⟩
    · rintro ⟨k, e, hk, hr⟩
      refine ⟨k, Rch.of_closed (P := fun j => j ∈ ks) (fun h => ?_) (fun j r i hj hr hi hl => ?_) hr hk, e.symm⟩
      · rcases S.zero with z | z | z
        · exact z
        · cases z
        · omega
      · rcases S.cl j r i hj hr hi hl with z | z
        · exact z
        · cases z

/-! ### the law's own rounds -/
/-- what a place of the round adds -/
def addOf (rs : List RW) (k : Nat) (seen : List Nat) : List Nat := match rs[k]? with
  | none => []
  | some r => (r.lw k).filter fun j => decide (j < rs.length) && !seen.contains j
theorem mem_addOf {rs : List RW} {k j : Nat} {seen : List Nat} : j ∈ addOf rs k seen ↔ ∃ r, rs[k]? = some r ∧ j ∈ r.nx k ∧ j < rs.length ∧ j ∉ seen := by
  unfold addOf
  cases h : rs[k]? with
  | none => simp
  | some r => simp [List.mem_filter, lw_nx]
/-- one round over the places at -/
def roundGo (rs : List RW) : List Nat → List Nat → List Nat
  | [], seen => seen
  | k :: r, seen => roundGo rs r (seen ++ addOf rs k seen)
theorem round_sub {rs : List RW} : ∀ {l seen : List Nat} {j : Nat}, j ∈ seen → j ∈ roundGo rs l seen
  | [], _, _, h => h
  | _ :: r, _, _, h => round_sub (l := r) (List.mem_append_left _ h)
theorem round_all {rs : List RW} : ∀ {l seen : List Nat} {k j : Nat} {r : RW}, k ∈ l → rs[k]? = some r → j ∈ r.nx k → j < rs.length → j ∈ roundGo rs l seen
  | a :: l, seen, k, j, r, hk, hr, hj, hl => by
    rcases List.mem_cons.mp hk with e | hk
    · subst e
      refine round_sub (l := l) (seen := seen ++ addOf rs k seen) ?_
      by_cases hs : j ∈ seen
      · exact List.mem_append_left _ hs
      · exact List.mem_append_right _ (mem_addOf.mpr ⟨r, hr, hj, hl, hs⟩)
    · exact round_all (l := l) (seen := seen ++ addOf rs a seen) hk hr hj hl
theorem round_ok {rs : List RW} {P : Nat → Prop} (hc : Closed rs P) : ∀ {l seen : List Nat}, (∀ k ∈ l, P k) → (∀ k ∈ seen, P k) → ∀ k ∈ roundGo rs l seen, P k
  | [], _, _, h => h
  | a :: l, seen, hl, hs => round_ok (l := l) hc (fun k hk => hl k (List.mem_cons_of_mem _ hk)) fun k hk => by
    rcases List.mem_append.mp hk with hk | hk
    · exact hs k hk
    · obtain ⟨r, hr, hj, hlt, _⟩ := mem_addOf.mp hk
      exact hc a r k (hl a List.mem_cons_self) hr hj hlt
/-- no place more than twice -/
def Twice (n : Nat) (seen : List Nat) : Prop := (∀ k ∈ seen, k < n) ∧ ∀ k, seen.count k ≤ 2
theorem twice_len {n : Nat} : ∀ {l : List Nat}, Twice n l → l.length ≤ 2 * n := by
  induction n with
  | zero =>
    intro l h
    cases l with
    | nil => simp
    | cons a l => exact absurd (h.1 a List.mem_cons_self) (by omega)
  | succ n ih =>
    intro l h
    have h1 : (l.filter (· ≠ n)).length ≤ 2 * n := ih ⟨fun k hk => by
      have := List.mem_filter.mp hk
      have h2 := h.1 k this.1
      have h3 : k ≠ n := by simpa using this.2
      omega, fun k => Nat.le_trans (List.Sublist.count_le _ List.filter_sublist) (h.2 k)⟩
    have h2 : l.length = (l.filter (· ≠ n)).length + l.count n := by
      clear h1 h ih
      rw [List.count_eq_length_filter]
      induction l with
      | nil => rfl
      | cons a l ih =>
        simp only [List.filter_cons, List.length_cons, ih]
        by_cases e : a = n <;> simp [e] <;> omega
    have := h.2 n
    omega
theorem twice_add {rs : List RW} {seen : List Nat} (h : Twice rs.length seen) (k : Nat) : Twice rs.length (seen ++ addOf rs k seen) := by
  refine ⟨fun j hj => ?_, fun j => ?_⟩
  · rcases List.mem_append.mp hj with hj | hj
    · exact h.1 j hj
    · exact (mem_addOf.mp hj).choose_spec.2.2.1
  · rw [List.count_append]
    by_cases hs : j ∈ seen
    · have : (addOf rs k seen).count j = 0 := List.count_eq_zero.mpr fun q => (mem_addOf.mp q).choose_spec.2.2.2 hs
      have := h.2 j
      omega
    · have h0 : seen.count j = 0 := List.count_eq_zero.mpr hs
      have : (addOf rs k seen).length ≤ 2 := by
        unfold addOf
        cases rs[k]? with
        | none => simp
        | some r => exact Nat.le_trans (List.length_filter_le _ _) (lw_len r k)
      have := List.count_le_length (a := j) (l := addOf rs k seen)
      omega
theorem twice_round {rs : List RW} : ∀ {l seen : List Nat}, Twice rs.length seen → Twice rs.length (roundGo rs l seen)
  | [], _, h => h
  | _ :: l, _, h => twice_round (l := l) (twice_add h _)
def many (n : Nat) (s : List Nat) : Nat := (List.range n).countP fun k => s.contains k
theorem countP_lt {α : Type} {p q : α → Bool} : ∀ {l : List α}, (∀ a ∈ l, p a = true → q a = true) → (∃ a ∈ l, p a = false ∧ q a = true) → l.countP p < l.countP q
  | [], _, h => by obtain ⟨_, h, _⟩ := h; cases h
  | a :: l, h, ⟨b, hb, h1, h2⟩ => by
    have mono : l.countP p ≤ l.countP q := List.countP_mono_left fun x hx => h x (List.mem_cons_of_mem _ hx)
    rw [List.countP_cons, List.countP_cons]
    rcases List.mem_cons.mp hb with e | hb
    · subst e
      simp only [h1, h2]
      simp
      omega
    · have ih := countP_lt (l := l) (fun x hx => h x (List.mem_cons_of_mem _ hx)) ⟨b, hb, h1, h2⟩
      have ha := h a List.mem_cons_self
      cases hp : p a with
      | true => simp [ha hp]; omega
      | false => cases q a <;> simp <;> omega
structure Rounds (rs : List RW) (i : Nat) (seen : List Nat) : Prop where
  tw : Twice rs.length seen
  rc : ∀ k ∈ seen, Rch rs k
  zero : 0 < rs.length → 0 ∈ seen
  on : Closed rs (fun k => k ∈ seen) ∨ i < many rs.length seen
theorem rch_closed (rs : List RW) : Closed rs (Rch rs) := fun _ _ _ hk hr hj _ => .step hk hr hj
theorem Rounds.start (rs : List RW) : Rounds rs 0 ([0].take rs.length) := by
  cases hn : rs.length with
  | zero => exact ⟨⟨by simp, by simp⟩, by simp, by omega, .inl fun k r j hk => by simp at hk⟩
  | succ n =>
    have e : ([0] : List Nat).take (n + 1) = [0] := by simp
    rw [e]
    refine ⟨⟨by simp; omega, fun k => ?_⟩, fun k hk => ?_, fun _ => by simp, .inr ?_⟩
    · exact Nat.le_trans List.count_le_length (by simp)
    · have : k = 0 := by simpa using hk
      subst this
      exact .base
    · unfold many
      rw [hn]
      exact List.countP_pos_iff.mpr ⟨0, by simp, by simp⟩
theorem Rounds.next {rs : List RW} {i : Nat} {seen : List Nat} (R : Rounds rs i seen) : Rounds rs (i + 1) (roundGo rs seen seen) := by
  refine ⟨twice_round R.tw, round_ok (rch_closed rs) R.rc R.rc, fun h => round_sub (R.zero h), ?_⟩
  rcases R.on with hc | hm
  · left
    have e : ∀ k, k ∈ roundGo rs seen seen → k ∈ seen := round_ok hc (fun _ h => h) fun _ h => h
    exact fun k r j hk hr hj hl => round_sub (hc k r j (e k hk) hr hj hl)
  · by_cases hs : ∀ k ∈ roundGo rs seen seen, k ∈ seen
    · left
      exact fun k r j hk hr hj hl => round_all (hs k hk) hr hj hl
    · right
      obtain ⟨k, hk⟩ := Classical.not_forall.mp hs
      obtain ⟨h1, h2⟩ := Classical.not_imp.mp hk
      have : many rs.length seen < many rs.length (roundGo rs seen seen) := by
        refine countP_lt (fun a _ h => ?_) ⟨k, List.mem_range.mpr ((twice_round R.tw).1 k h1), ?_, ?_⟩
        · simp only [List.contains_iff_mem] at *
          exact round_sub h
        · simpa using h2
        · simpa using h1
      omega
theorem Rounds.done {rs : List RW} {seen : List Nat} {ns : List Int} (R : Rounds rs rs.length seen) (hp : ns.Pairwise (· < ·)) (hm : ∀ z : Int, z ∈ ns ↔ z ∈ seen.map fun k : Nat => (k : Int)) : IsAns rs ns := by
  have hc : Closed rs (fun k => k ∈ seen) := by
    rcases R.on with h | h
    · exact h
    · have : many rs.length seen ≤ rs.length := by
        unfold many
        exact Nat.le_trans List.countP_le_length (by simp)
      omega
  refine ⟨hp, fun z => ?_⟩
  rw [hm, List.mem_map]
  constructor
  · rintro ⟨k, hk, e⟩
    exact ⟨k, e.symm, R.tw.1 k hk, R.rc k hk⟩
  · rintro ⟨k, e, hk, hr⟩
    exact ⟨k, Rch.of_closed R.zero hc hr hk, e.symm⟩
/-! ### set(xs) of a list of whole numbers -/
namespace LS
open PySem PySem.Spec PyProof.Rows L2
abbrev bareSet (w : World) : Obj := { cls := .type "set", dict := none, data := .set #[] 0 (.fresh 0 0 (!w.params.followText "set-order")) }
section
variable {P : Program} {w : World} {A : Around} {E : Value → Shared → Prop}
/-- its __init__, behind the making of the empty set at S -/
theorem fillSet {t : Shared} {S l : Addr} {items : Array Value} {ns : List Int} (calm : A.handled = none) (atS : t.heap.get? S = some (bareSet w)) (atL : t.heap.IsList l items) (apart : l ≠ S)
    (whole : IntsAre items.toList ns) (few : ns.length + 1 < scanBound) :
    codeAny (model P w) A (.call (.builtin "set.__init__") ⟨[.ref S, .ref l], []⟩)
      (wants (fun r t2 => r = .none ∧ ∃ h2 tk c, t2 = { t with heap := h2, toks := tk } ∧ SetR w h2 S (fun j => decide (j ∈ ns)) c ∧ c ≤ ns.length ∧ ∀ b o, b ≠ S → t.heap.get? b = some o → h2.get? b = some o) E) t := by
  have size : items.size = ns.length := by simpa using IntsAre.length whole
  have kind : Shared.TypeIs t (.ref S) "set" := ⟨_, atS, rfl⟩
  refine codeAny_call_builtin F.called_set.init.plain F.entry_set_init (check_set_init_1 kind ?_)
  obtain ⟨⟨oc, od, odt, osl⟩, atL1, isL, nl, dat⟩ := atL
  simp only at isL dat
  subst isL
  subst dat
  have sub1 := F.sub_list_set
  have sub2 := F.sub_list_frozenset
  have noD : (Value.type "list" == Value.type "dict") = false := by decide
  have lst1 : t.heap.IsList l items := ⟨_, atL1, rfl, nl, rfl⟩
  unfold Builtin.«set.__init__» noKeywords Builtin.Frozenset.updateFrom
  generalize it : pyIter = walker
  wp_walk
  subst it
  refine wpAny_pyIter_list lst1 (wpAny_bind (wpAny_runValue ?_))
  have newI : l ≠ t.heap.objs.size := Nat.ne_of_lt (Heap.lt_size atL1)
  have newS : S ≠ t.heap.objs.size := Nat.ne_of_lt (Heap.lt_size atS)
  have each : ∀ (i : Nat) (v : Value), items[i]? = some v → ∃ k u, ns[i]? = some k ∧ v = .int k u := fun i v hv => by
    have hi : i < ns.length := by rw [← size]; exact (Array.getElem?_eq_some_iff.mp hv).1
    obtain ⟨u, e⟩ := IntsAre.int_at whole i v (by rw [Array.getElem?_toList]; exact hv)
    exact ⟨ns[i], u, List.getElem?_eq_getElem hi, by rw [e, List.getD_eq_getElem?_getD, List.getElem?_eq_getElem hi]; rfl⟩
  refine set_update_ints ((Walks.list (A := A.in1.in1) (by simp [calm]) _ l newI items).toS) S (by simp [apart.symm, newS]) ns size few each (items.size - 0) 0 _ rfl (Nat.zero_le _) ?st ?atS ?after
  case st => exact ⟨⟨_, Heap.get?_push_size _ rfl, rfl, rfl⟩, lst1.push _⟩
  case atS => exact ⟨0, Nat.le_refl 0, setR_new_at (Heap.get?_push_of_some _ atS)⟩
  intro t3 c moved cle made
  obtain ⟨h3, g3, d3, k3, o3⟩ := t3
  have e1 : g3 = t.gens := moved.gens
  have e2 : d3 = t.drawn := moved.drawn
  have e3 : o3 = t.os := moved.os
  subst e1 e2 e3
  show wpAny _ _ _ _ _ _
  refine wpAny_pure ?_
  show wpAny _ _ (ret Value.none) _ _ _
  refine wpAny_pure ⟨rfl, h3, k3, c, rfl, made, by omega, fun b o nb e => ?_⟩
  refine moved.heap b o ?_ (Heap.get?_push_of_some _ e)
  have := Heap.lt_size e
  simp only [List.mem_cons, List.not_mem_nil, or_false, not_or]
  exact ⟨nb, Nat.ne_of_lt this⟩
theorem makeSet {s : Shared} {l : Addr} {items : Array Value} {ns : List Int} {Q : Value → Shared → Prop} (calm : A.handled = none) (atL : s.heap.IsList l items) (whole : IntsAre items.toList ns) (few : ns.length + 1 < scanBound)
    (next : ∀ h2 tk c, SetR w h2 s.heap.objs.size (fun j => decide (j ∈ ns)) c → c ≤ ns.length → (∀ b o, s.heap.get? b = some o → h2.get? b = some o) → Q (.ref s.heap.objs.size) { s with heap := h2, toks := tk }) :
    wpAny (model P w) A (call (.type "set") [.ref l]) Q E s := by
  have order := F.called_set.mro
  obtain ⟨mc, mt, order⟩ := order
  have isMade := F.called_set.made
  have isSub := F.called_set.sub
  refine wpAny_call (codeAny_of_tree (show wpAny _ _ (callAny (.type "set") _) _ _ _ from ?_))
  refine wpAny_pure ⟨Code.quiet_builtin _ (by decide +kernel), codeAny_builtin PySem.F.entry_type_call ?_⟩
  rw [Around.under_plain (weight_type_call_type "set" [.ref l] []) rfl]
  have q1 := F.called_set.notType
  have q2 := F.called_set.canCreate
  have q3 := F.typeCall_set_1 (.ref l)
  repeat (any_goals (first | assumption | wp_step))
  refine codeAny_mono (code_set_led1 (.ref l) (E := E) (Q₁ := fun r t => r = .ref s.heap.objs.size ∧ t = { s with heap := s.heap.push (bareSet w) }) ⟨rfl, rfl⟩) fun r t came => ?_
  match r, came with
  | .error e, came => exact came
  | .ok (.ret r), came =>
    obtain ⟨e1, e2⟩ := came
    subst e1 e2
    have here : (s.heap.push (bareSet w)).get? s.heap.objs.size = some (bareSet w) := Heap.get?_push_size _ rfl
    have kind : Shared.TypeIs { s with heap := s.heap.push (bareSet w) } (.ref s.heap.objs.size) "set" := ⟨_, here, rfl⟩
    have q4 := F.called_set.init.lookup
    have q5 := F.called_set.init.bind (.ref s.heap.objs.size)
    repeat (any_goals (first | assumption | wp_step))
    have far : l ≠ s.heap.objs.size := by
      obtain ⟨o, e, _⟩ := atL
      exact Nat.ne_of_lt (Heap.lt_size e)
    refine codeAny_mono (fillSet (E := E) (by simp [calm]) here (atL.push _) far whole few) fun r2 t2 came2 => ?_
    match r2, came2 with
    | .error e, came2 => exact came2
    | .ok (.ret r2), came2 =>
      obtain ⟨e1, h2, tk, c, e2, made, cle, keeps⟩ := came2
      subst e1 e2
      repeat (any_goals (first | assumption | wp_step))
      exact next _ _ _ made cle fun b o e => keeps b o (Nat.ne_of_lt (Heap.lt_size e)) (Heap.get?_push_of_some _ e)
    | .ok .next, came2 => exact came2.elim
    | .ok .brk, came2 => exact came2.elim
    | .ok .cont, came2 => exact came2.elim
  | .ok .next, came => exact came.elim
  | .ok .brk, came => exact came.elim
  | .ok .cont, came => exact came.elim
end
/-- set(xs): a new set of just its numbers -/
def rSetLI (K : PySem.W.Frag) (w : World) : List V → Hp → VK → Prop := fun vs H Q => ∃ (l : Addr) (ns : List Int), vs = [V.ref l] ∧ SqL K H l (ns.map V.int) ∧ ns.length + 1 < scanBound ∧
  ∀ (p : Addr) (c : Nat), c ≤ ns.length → H p = none → Q (.ref p) (upd H p (SetO w p (fun j => decide (j ∈ ns)) c))
theorem cr_setLI {X : Cx} (hc : X.calm = true) : CallR X (.type "set") (rSetLI X.K X.w) := by
  intro pins s σ H vs us Q I r h
  obtain ⟨l, ns, rfl, hl, few, q⟩ := h
  rw [Vals.ref1 r]
  obtain ⟨its, rv, pl, hz⟩ := I.list hl
  refine makeSet (I.ok.hd hc) pl.isList (by simpa using intsAre_of rv) few fun h2 tk c made cle keeps => ?_
  have new : H s.heap.objs.size = none := I.hok.fresh (Nat.le_refl _)
  exact ⟨.ref _, _, I.laid (t' := tk) keeps (Nat.le_refl _) (setO_new made), rfl, q _ c cle new⟩
end LS
def top (i : Nat) : Stmt := PySem.Challenge.pw_holders_k84_came_to.main.body.getD i (.Pass ⟨0, 0, 0, 0⟩)
abbrev s_may_come : Stmt := top 1
abbrev s_came_to : Stmt := top 2
abbrev s_l_cell : Stmt := top 4
abbrev s_l_mixed : Stmt := top 5
abbrev s_l_rows : Stmt := top 6
abbrev s_l_reached : Stmt := top 7
abbrev s_law : Stmt := top 8
theorem sc_may_come : FnScope ["rows", "at", "row"] ["rows", "at"] (defScope s_may_come) := ⟨rfl, rfl, rfl, by decide +kernel, rfl, by decide +kernel, by decide +kernel⟩
theorem sc_came_to : FnScope ["rows", "seen", "line", "at"] ["rows"] (defScope s_came_to) := ⟨rfl, rfl, rfl, by decide +kernel, rfl, by decide +kernel, by decide +kernel⟩
theorem sc_l_cell : FnScope ["_law_script", "_law_k", "_law_cell_here", "_law_mark"] ["_law_script", "_law_k"] (defScope s_l_cell) := ⟨rfl, rfl, rfl, by decide +kernel, rfl, by decide +kernel, by decide +kernel⟩
theorem sc_l_mixed : FnScope ["_law_cell_here", "_law_k", "_law_mark"] ["_law_cell_here", "_law_k"] (defScope s_l_mixed) := ⟨rfl, rfl, rfl, by decide +kernel, rfl, by decide +kernel, by decide +kernel⟩
theorem sc_l_rows : FnScope ["_law_script", "_law_many", "_law_rows_here", "_law_k", "_law_cell_here", "_law_to", "_law_some"] ["_law_script"] (defScope s_l_rows) := ⟨rfl, rfl, rfl, by decide +kernel, rfl, by decide +kernel, by decide +kernel⟩
theorem sc_l_reached : FnScope ["_law_rows_here", "_law_seen", "_law_turn", "_law_at", "_law_later", "_law_one"] ["_law_rows_here"] (defScope s_l_reached) := ⟨rfl, rfl, rfl, by decide +kernel, rfl, by decide +kernel, by decide +kernel⟩
theorem sc_law : FnScope ["_law_script", "_law_rows_here", "_law_due", "_law_found"] ["_law_script"] (defScope s_law) := ⟨rfl, rfl, rfl, by decide +kernel, rfl, by decide +kernel, by decide +kernel⟩
structure Tx (K : PySem.W.Frag) (mg : Str → Option Value) where
  n_len : mg "len" = none
  n_sorted : mg "sorted" = none
  n_range : mg "range" = none
  n_tuple : mg "tuple" = none
  n_list : mg "list" = none
  n_int : mg "int" = none
  n_set : mg "set" = none
  n_isinstance : mg "isinstance" = none
  f_may_come : Addr
  d_may_come : FuncData
  F_may_come : Fun K "may_come" "may_come" s_may_come f_may_come d_may_come
  B_may_come : Binds K d_may_come ["rows", "at"] []
  m_may_come : mg "may_come" = some (.ref f_may_come)
  f_came_to : Addr
  d_came_to : FuncData
  F_came_to : Fun K "came_to" "came_to" s_came_to f_came_to d_came_to
  B_came_to : Binds K d_came_to ["rows"] []
  m_came_to : mg "came_to" = some (.ref f_came_to)
  f_l_cell : Addr
  d_l_cell : FuncData
  F_l_cell : Fun K "_law_cell" "_law_cell" s_l_cell f_l_cell d_l_cell
  B_l_cell : Binds K d_l_cell ["_law_script", "_law_k"] []
  m_l_cell : mg "_law_cell" = some (.ref f_l_cell)
  f_l_mixed : Addr
  d_l_mixed : FuncData
  F_l_mixed : Fun K "_law_mixed" "_law_mixed" s_l_mixed f_l_mixed d_l_mixed
  B_l_mixed : Binds K d_l_mixed ["_law_cell_here", "_law_k"] []
  m_l_mixed : mg "_law_mixed" = some (.ref f_l_mixed)
  f_l_rows : Addr
  d_l_rows : FuncData
  F_l_rows : Fun K "_law_rows" "_law_rows" s_l_rows f_l_rows d_l_rows
  B_l_rows : Binds K d_l_rows ["_law_script"] []
  m_l_rows : mg "_law_rows" = some (.ref f_l_rows)
  f_l_reached : Addr
  d_l_reached : FuncData
  F_l_reached : Fun K "_law_reached" "_law_reached" s_l_reached f_l_reached d_l_reached
  B_l_reached : Binds K d_l_reached ["_law_rows_here"] []
  m_l_reached : mg "_law_reached" = some (.ref f_l_reached)
  f_law : Addr
  d_law : FuncData
  F_law : Fun K "law" "law" s_law f_law d_law
  B_law : Binds K d_law ["_law_script"] []
  m_law : mg "law" = some (.ref f_law)
theorem cmR {i j : Int} (h0 : -1000000000000 < j) (h1 : j < 1000000000000) : CMul i j := by
  have e : (2 : Int) ^ 64 = 18446744073709551616 := by decide
  exact .inr ⟨by rw [e]; omega, by rw [e]; omega⟩
theorem cmL {i j : Int} (h0 : -1000000000000 < i) (h1 : i < 1000000000000) : CMul i j := by
  have e : (2 : Int) ^ 64 = 18446744073709551616 := by decide
  exact .inl ⟨by rw [e]; omega, by rw [e]; omega⟩
theorem dvW {i j : Int} (h0 : 0 < j) (h1 : j < 1000000000000) : CDivW i j := wide_div h0 (b := 40) (by
  have e : (2 : Nat) ^ 40 = 1099511627776 := by decide
  rw [e]
  omega) (by decide) (by decide)
theorem ints_at {ns : List Int} {k : Nat} {z : Int} (h : ns[k]? = some z) : atI (ns.map V.int) (k : Int) = some (.int z) := atI_nat (by rw [List.getElem?_map, h]; rfl)
/-! ### data that is compared -/
theorem dpInts {K : PySem.W.Frag} {H : Hp} : ∀ ns : List Int, DpAll K H (ns.map V.int) (ns.map PyData.int)
  | [] => .nil
  | n :: ns => .cons (.int n) (dpInts ns)
theorem dpIntL {K : PySem.W.Frag} {H : Hp} {a : Addr} {ns : List Int} (h : SqL K H a (ns.map V.int)) : Dp K H (.ref a) (.list (ns.map PyData.int)) := .lst h (dpInts ns)
theorem layInts : ∀ ns : List Int, PyData.canLayAll0 (ns.map PyData.int) = true
  | [] => by simp [PyData.canLayAll0]
  | n :: ns => by simp [PyData.canLayAll0, PyData.canLay0, layInts ns]
theorem deepInts : ∀ ns : List Int, PyData.depthAll (ns.map PyData.int) ≤ 1
  | [] => by simp [PyData.depthAll]
  | n :: ns => by
    have := deepInts ns
    simp only [List.map_cons, PyData.depthAll, PyData.depth]
    omega
theorem shapedOf {d : PyData} (h : d.canLay0 = true) (h2 : d.depth ≤ 64) : SeqAt.shaped d = true := by
  unfold SeqAt.shaped
  rw [h, decide_eq_true h2] <;> rfl
theorem shInts (ns : List Int) : SeqAt.shaped (.list (ns.map PyData.int)) = true := shapedOf (by simp only [PyData.canLay0]; exact layInts ns) (by
  have := deepInts ns
  simp only [PyData.depth]
  omega)
theorem eqvAllInts : ∀ ns ms : List Int, PyData.eqvAll (ns.map PyData.int) (ms.map PyData.int) = decide (ns = ms)
  | [], [] => by simp [PyData.eqvAll]
  | [], m :: ms => by simp [PyData.eqvAll]
  | n :: ns, [] => by simp [PyData.eqvAll]
  | n :: ns, m :: ms => by
    have e := eqvAllInts ns ms
    simp only [List.map_cons, PyData.eqvAll, PyData.eqv, e]
    by_cases h : n = m <;> by_cases h2 : ns = ms <;> simp [h, h2]
theorem eqvInts (ns ms : List Int) : PyData.eqv (.list (ns.map PyData.int)) (.list (ms.map PyData.int)) = decide (ns = ms) := by
  rw [PyData.eqv]
  exact eqvAllInts ns ms
/-! ### tests whose outcome is known, heaps that stay -/
theorem iteDF {c A B : Prop} [Decidable c] (hc : ¬ c) (h : B) : if decide c = true then A else B := by
  rw [decide_eq_false hc]
  exact iteF h
theorem iteDT {c A B : Prop} [Decidable c] (hc : c) (h : A) : if decide c = true then A else B := by
  rw [decide_eq_true hc]
  exact iteT h
theorem iteBF {b : Bool} {A B : Prop} (hb : b = false) (h : B) : if b = true then A else B := by
  subst hb
  exact iteF h
theorem iteBT {b : Bool} {A B : Prop} (hb : b = true) (h : A) : if b = true then A else B := by
  subst hb
  exact iteT h
theorem same_upd {H : Hp} {a : Addr} {o : HO} (h : H a = none) : Same H (upd H a o) := fun b u e => by
  rw [upd_ne (ne_of_none e h)]
  exact e
theorem same_updT {H H' : Hp} {a : Addr} {o : HO} (s : Same H H') (h : H a = none) : Same H (upd H' a o) := fun b u e => by
  rw [upd_ne (ne_of_none e h)]
  exact s b u e
theorem sameT {K : PySem.W.Frag} {H H' : Hp} {a : Addr} {xs : List V} (e : Same H H') (h : SqT K H a xs) : SqT K H' a xs := by
  rcases h with (h | ⟨o, h⟩) | h
  · exact .inl (.inl (e _ _ h))
  · exact .inl (.inr ⟨o, e _ _ h⟩)
  · exact .inr h
theorem cut_hi (xs : List V) (n : Nat) : cutV xs none (some (n : Int)) = xs.take n := by
  unfold cutV
  rw [HT.sIx_none, HT.sIx_nat, List.drop_zero, Nat.sub_zero, ← List.take_eq_take_min]
theorem cut_lo (xs : List V) (n : Nat) : cutV xs (some (n : Int)) none = xs.drop n := by
  unfold cutV
  rw [HT.sIx_none, HT.sIx_nat]
  by_cases h : n ≤ xs.length
  · rw [Nat.min_eq_left h, ← List.length_drop, List.take_length]
  · rw [Nat.min_eq_right (by omega), List.drop_eq_nil_of_le (by omega : xs.length ≤ xs.length), List.drop_eq_nil_of_le (by omega : xs.length ≤ n)]
    simp
theorem inInts (z : Int) (l : List Int) : inV (.int z) (l.map V.int) = decide (z ∈ l) := by
  unfold inV
  rw [List.any_map, Bool.eq_iff_iff]
  simp only [List.any_eq_true, Function.comp, eqV, beq_iff_eq, decide_eq_true_eq]
  exact ⟨fun ⟨x, h, e⟩ => e ▸ h, fun h => ⟨z, h, rfl⟩⟩
theorem flatInts (l : List Int) : (l.map V.int).all flatV = true := by
  rw [List.all_map, List.all_eq_true]
  intro _ _
  rfl
/-! ### rules that speak of the written part, with it by name (within comprehensions) -/
section
variable {X : Cx} {K : PySem.W.Frag}
theorem len_seqK (h : X.K = K) : CallR X (.builtin "len") (fun xs H Q => ∃ p ys, xs = [.ref p] ∧ (SqL K H p ys ∨ SqT K H p ys) ∧ Q (.int ys.length) H) := by
  subst h
  exact call_len_seq
theorem list_ofK (h : X.K = K) : CallR X (.type "list") (fun xs H Q => ∃ p ys, xs = [.ref p] ∧ (SqL K H p ys ∨ SqT K H p ys) ∧ ∀ l, H l = none → Q (.ref l) (upd H l (.lst ys))) := by
  subst h
  exact call_list_of
theorem tuple_ofK (h : X.K = K) : CallR X (.type "tuple") (fun xs H Q => ∃ p ys, xs = [.ref p] ∧ ((SqL K H p ys ∧ ∀ l, H l = none → Q (.ref l) (upd H l (.tup ys))) ∨ (SqT K H p ys ∧ Q (.ref p) H))) := by
  subst h
  exact call_tuple_of
theorem in_seqK (h : X.K = K) : OpR X (compareOp .In) (rIn K false) := by
  subst h
  exact op_in_seq
theorem notIn_seqK (h : X.K = K) : OpR X (compareOp .NotIn) (rIn K true) := by
  subst h
  exact op_notIn_seq
theorem eqDK (h : X.K = K) (hu : X.A.units + 64 < cLine) : OpR X (compareOp .Eq) (rEqD K) := by
  subst h
  exact op_eqD hu
theorem neDK (h : X.K = K) (hu : X.A.units + 64 < cLine) : OpR X (compareOp .NotEq) (rNeD K) := by
  subst h
  exact op_neD hu
theorem ix_listK (h : X.K = K) : IxR X (rIxL K) := by
  subst h
  exact ix_list
theorem ix_tupK (h : X.K = K) : IxR X (rIxT K) := by
  subst h
  exact ix_tup
end
/-! ### the cells -/
def cellF (ns : List Int) (k : Nat) : Int :=
  let c := ns.getD k 0
  let m := (c % 2147483629 + 7919 * ((k : Int) + 1)) * 48271 % 2147483647
  let m := m * m % 2147483629 * 69621 % 2147483647
  (c / 2147483629 * 2147483647 + m) * 2147483629 + m * m % 2147483629
def mixF (c : Int) (k : Nat) : Int :=
  let m := (c % 2147483629 + 104729 * ((k : Int) + 1)) * 16807 % 2147483647
  m * m % 2147483629 * 48271 % 2147483647
theorem mixF_nn (c : Int) (k : Nat) : 0 ≤ mixF c k := Int.emod_nonneg _ (by decide)
def spCell (K : PySem.W.Frag) : Sp := fun vs H Q _ => ∃ (a : Addr) (ns : List Int) (k : Nat), vs = [.ref a, .int (k : Int)] ∧ SqL K H a (ns.map V.int) ∧ Q (.int (cellF ns k)) H
def spMix : Sp := fun vs H Q _ => ∃ (c : Int) (k : Nat), vs = [.int c, .int (k : Int)] ∧ Q (.int (mixF c k)) H
section
variable {P : Program} {w : World} {K : PySem.W.Frag} {mg : Str → Option Value} {base : Heap}
theorem ok_l_mixed (T : Tx K mg) : FnOk P w K mg base CX0 1 T.f_l_mixed T.d_l_mixed ["_law_cell_here", "_law_k"] spMix := by
  refine T.F_l_mixed.ok sc_l_mixed (fun vs H Q E h => ?_) (fun cdv A outer s H vs Q E hr h => ?_)
  · obtain ⟨c, k, rfl, _⟩ := h
    rfl
  · obtain ⟨c, k, rfl, q⟩ := h
    refine ⟨_, (pss_cons (ps_set (i := 2) sc_l_mixed.nd rfl (Or.inl rfl) (pe_op op_mod (pe_op op_mul (pe_op op_add (pe_op op_mod (pv 0) pe_int) (pe_op op_mul pe_int (pe_op op_add (pv 1) pe_int))) pe_int) pe_int))
      (pss_one (ps_ret (pe_op op_mod (pe_op op_mul (pe_op op_mod (pe_op op_mul (pv 2) (pv 2)) pe_int) pe_int) pe_int)))), ?_⟩
    refine ⟨_, rfl, _, _, rfl, rfl, (by show (0 : Int) < 2147483629; decide), _, rfl, _, _, rfl, rfl, _, _, rfl, rfl, cmL (by decide) (by decide), _, _, rfl, rfl, _, _, rfl, rfl, cmR (by decide) (by decide), _, _, rfl, rfl, (by show (0 : Int) < 2147483647; decide), ?_⟩
    refine ⟨_, rfl, _, rfl, _, _, rfl, rfl, cmL (by omega) (by omega), _, _, rfl, rfl, (by show (0 : Int) < 2147483629; decide), _, _, rfl, rfl, cmR (by decide) (by decide), _, _, rfl, rfl, (by show (0 : Int) < 2147483647; decide), q⟩
theorem ok_l_cell (T : Tx K mg) : FnOk P w K mg base CX0 1 T.f_l_cell T.d_l_cell ["_law_script", "_law_k"] (spCell K) := by
  refine T.F_l_cell.ok sc_l_cell (fun vs H Q E h => ?_) (fun cdv A outer s H vs Q E hr h => ?_)
  · obtain ⟨a, ns, k, rfl, _⟩ := h
    rfl
  · obtain ⟨a, ns, k, rfl, hS, q⟩ := h
    refine ⟨_, (pss_cons (ps_set (i := 2) sc_l_cell.nd rfl (Or.inl rfl) (pe_ifExp (pt_cmpR op_lt (pv 1) (pe_callB (len_seqK (K := K) rfl) (by rfl) T.n_len PySem.boot_len (pa_cons (pv 0) pa_nil)) (nomark _)) (pe_ix (ix_listK (K := K) rfl) (pv 0) (pv 1) (fun _ _ => rfl)) pe_int))
      (pss_cons (ps_set (i := 3) sc_l_cell.nd rfl (Or.inl rfl) (pe_op op_mod (pe_op op_mul (pe_op op_add (pe_op op_mod (pv 2) pe_int) (pe_op op_mul pe_int (pe_op op_add (pv 1) pe_int))) pe_int) pe_int))
      (pss_cons (ps_set (i := 3) sc_l_cell.nd rfl (Or.inl rfl) (pe_op op_mod (pe_op op_mul (pe_op op_mod (pe_op op_mul (pv 3) (pv 3)) pe_int) pe_int) pe_int))
      (pss_one (ps_ret (pe_op op_add (pe_op op_mul (pe_op op_add (pe_op op_mul (pe_op op_fdivW (pv 2) pe_int) pe_int) (pv 3)) pe_int) (pe_op op_mod (pe_op op_mul (pv 3) (pv 3)) pe_int))))))), ?_⟩
    refine ⟨_, rfl, _, rfl, a, _, rfl, .inl hS, _, _, rfl, rfl, _, rfl, ?_⟩
    unfold cellF at q
    refine ite2 (fun hk => ?_) (fun hk => ?_)
    · have hk' := of_decide_eq_true hk
      rw [List.length_map] at hk'
      have hk2 : k < ns.length := by omega
      have hz : ns[k]? = some (ns.getD k 0) := by rw [List.getD_eq_getElem?_getD, List.getElem?_eq_getElem hk2]; rfl
      refine ⟨_, rfl, _, rfl, a, _, _, _, rfl, rfl, hS, ints_at hz, ?_⟩
      refine ⟨_, rfl, _, _, rfl, rfl, (by show (0 : Int) < 2147483629; decide), _, rfl, _, _, rfl, rfl, _, _, rfl, rfl, cmL (by decide) (by decide), _, _, rfl, rfl, _, _, rfl, rfl, cmR (by decide) (by decide), _, _, rfl, rfl, (by show (0 : Int) < 2147483647; decide), ?_⟩
      refine ⟨_, rfl, _, rfl, _, _, rfl, rfl, cmL (by omega) (by omega), _, _, rfl, rfl, (by show (0 : Int) < 2147483629; decide), _, _, rfl, rfl, cmR (by decide) (by decide), _, _, rfl, rfl, (by show (0 : Int) < 2147483647; decide), ?_⟩
      refine ⟨_, rfl, _, _, rfl, rfl, dvW (by decide) (by decide), _, _, rfl, rfl, cmR (by decide) (by decide), _, rfl, _, _, rfl, rfl, _, _, rfl, rfl, cmR (by decide) (by decide), _, rfl, _, rfl, _, _, rfl, rfl, cmL (by omega) (by omega), _, _, rfl, rfl, (by show (0 : Int) < 2147483629; decide), _, _, rfl, rfl, q⟩
    · have hk' : ¬ ((k : Int) < ((ns.map V.int).length : Int)) := fun z => hk (decide_eq_true z)
      rw [List.length_map] at hk'
      have hz : ns.getD k 0 = 0 := by rw [List.getD_eq_getElem?_getD, List.getElem?_eq_none (by omega)]; rfl
      rw [hz] at q
      refine ⟨_, rfl, _, _, rfl, rfl, (by show (0 : Int) < 2147483629; decide), _, rfl, _, _, rfl, rfl, _, _, rfl, rfl, cmL (by decide) (by decide), _, _, rfl, rfl, _, _, rfl, rfl, cmR (by decide) (by decide), _, _, rfl, rfl, (by show (0 : Int) < 2147483647; decide), ?_⟩
      refine ⟨_, rfl, _, rfl, _, _, rfl, rfl, cmL (by omega) (by omega), _, _, rfl, rfl, (by show (0 : Int) < 2147483629; decide), _, _, rfl, rfl, cmR (by decide) (by decide), _, _, rfl, rfl, (by show (0 : Int) < 2147483647; decide), ?_⟩
      refine ⟨_, rfl, _, _, rfl, rfl, dvW (by decide) (by decide), _, _, rfl, rfl, cmR (by decide) (by decide), _, rfl, _, _, rfl, rfl, _, _, rfl, rfl, cmR (by decide) (by decide), _, rfl, _, rfl, _, _, rfl, rfl, cmL (by omega) (by omega), _, _, rfl, rfl, (by show (0 : Int) < 2147483629; decide), _, _, rfl, rfl, q⟩

/-! ### rows in the heap -/
def rowV : RW → List V
  | .tick => [.str "tick"]
  | .back => [.str "back", .int (-1)]
  | .num => [.str "num", .int 0, .int 5]
  | .jump t => [.str "jump", .int (t : Int)]
  | .zero a t => [.str "zero", .int a, .int (t : Int)]
structure RowsAt (K : PySem.W.Frag) (H : Hp) (a : Addr) (rs : List RW) : Prop where
  ex : ∃ ps : List Addr, SqT K H a (ps.map V.ref) ∧ ps.length = rs.length ∧ ∀ (i : Nat) (r : RW), rs[i]? = some r → ∃ p, ps[i]? = some p ∧ H p = some (.tup (rowV r))
theorem RowsAt.same {H H' : Hp} {a : Addr} {rs : List RW} (R : RowsAt K H a rs) (s : Same H H') : RowsAt K H' a rs := by
  obtain ⟨ps, h1, h2, h3⟩ := R.ex
  refine ⟨ps, sameT s h1, h2, fun i r h => ?_⟩
  obtain ⟨p, q1, q2⟩ := h3 i r h
  exact ⟨p, q1, s _ _ q2⟩
/-- the item of such a tuple at k -/
theorem RowsAt.get {H : Hp} {a : Addr} {rs : List RW} {k : Nat} {r : RW} (R : RowsAt K H a rs) (h : rs[k]? = some r) : ∃ (ps : List Addr) (p : Addr), SqT K H a (ps.map V.ref) ∧ atI (ps.map V.ref) (k : Int) = some (.ref p) ∧ H p = some (.tup (rowV r)) := by
  obtain ⟨ps, h1, h2, h3⟩ := R.ex
  obtain ⟨p, q1, q2⟩ := h3 k r h
  exact ⟨ps, p, h1, atI_nat (by rw [List.getElem?_map, q1]; rfl), q2⟩
theorem RowsAt.len {H : Hp} {a : Addr} {rs : List RW} (R : RowsAt K H a rs) : ∃ xs : List V, SqT K H a xs ∧ xs.length = rs.length := by
  obtain ⟨ps, h1, h2, h3⟩ := R.ex
  exact ⟨_, h1, by rw [List.length_map, h2]⟩
def spMay (K : PySem.W.Frag) : Sp := fun vs H Q _ => ∃ (a : Addr) (rs : List RW) (k : Nat) (r : RW), vs = [.ref a, .int (k : Int)] ∧ RowsAt K H a rs ∧ rs[k]? = some r ∧
  ∀ p, H p = none → Q (.ref p) (upd H p (.lst ((r.nx k).map fun j : Nat => V.int (j : Int))))
theorem ok_may_come (T : Tx K mg) : FnOk P w K mg base CX0 1 T.f_may_come T.d_may_come ["rows", "at"] (spMay K) := by
  refine T.F_may_come.ok sc_may_come (fun vs H Q E h => ?_) (fun cdv A outer s H vs Q E hr h => ?_)
  · obtain ⟨a, rs, k, r, rfl, _⟩ := h
    rfl
  · obtain ⟨a, rs, k, r, rfl, R, hk, q⟩ := h
    obtain ⟨ps, p, hT, hat, hp⟩ := R.get hk
    refine ⟨_, (pss_cons (ps_set (i := 2) sc_may_come.nd rfl (Or.inl rfl) (pe_ix (ix_tupK (K := K) rfl) (pv 0) (pv 1) (fun _ _ => rfl)))
      (pss_cons (ps_if (pt_cmpR op_eq (pe_ix (ix_tupK (K := K) rfl) (pv 2) pe_int (fun _ _ => rfl)) pe_str (nomark _))
        (pss_one (ps_ret (pe_lst pa_nil)))
        pss_nil)
      (pss_cons (ps_if (pt_cmpR op_eq (pe_ix (ix_tupK (K := K) rfl) (pv 2) pe_int (fun _ _ => rfl)) pe_str (nomark _))
        (pss_one (ps_ret (pe_lst (pa_cons (pe_ix (ix_tupK (K := K) rfl) (pv 2) pe_int (fun _ _ => rfl)) pa_nil))))
        pss_nil)
      (pss_cons (ps_if (pt_cmpR op_eq (pe_ix (ix_tupK (K := K) rfl) (pv 2) pe_int (fun _ _ => rfl)) pe_str (nomark _))
        (pss_one (ps_ret (pe_lst (pa_cons (pe_op op_add (pv 1) pe_int) (pa_cons (pe_ix (ix_tupK (K := K) rfl) (pv 2) pe_int (fun _ _ => rfl)) pa_nil)))))
        pss_nil)
      (pss_one (ps_ret (pe_lst (pa_cons (pe_op op_add (pv 1) pe_int) pa_nil)))))))), ?_⟩
    refine ⟨_, rfl, _, rfl, a, _, _, _, rfl, rfl, hT, hat, ?_⟩
    cases r with
    | back =>
      refine ⟨_, rfl, p, _, _, _, rfl, rfl, SqT.of hp, atI_nat (j := 0) rfl, rfl, _, rfl, iteDT (by decide +kernel) ?_⟩
      exact ⟨Nat.zero_le _, fun l hl => q l hl⟩
    | jump t =>
      refine ⟨_, rfl, p, _, _, _, rfl, rfl, SqT.of hp, atI_nat (j := 0) rfl, rfl, _, rfl, iteDF (by decide +kernel) ?_⟩
      refine ⟨_, rfl, p, _, _, _, rfl, rfl, SqT.of hp, atI_nat (j := 0) rfl, rfl, _, rfl, iteDT (by decide +kernel) ?_⟩
      exact ⟨_, rfl, p, _, _, _, rfl, rfl, SqT.of hp, atI_nat (j := 1) rfl, (by show 1 ≤ sizeLine; decide), fun l hl => q l hl⟩
    | zero z t =>
      refine ⟨_, rfl, p, _, _, _, rfl, rfl, SqT.of hp, atI_nat (j := 0) rfl, rfl, _, rfl, iteDF (by decide +kernel) ?_⟩
      refine ⟨_, rfl, p, _, _, _, rfl, rfl, SqT.of hp, atI_nat (j := 0) rfl, rfl, _, rfl, iteDF (by decide +kernel) ?_⟩
      refine ⟨_, rfl, p, _, _, _, rfl, rfl, SqT.of hp, atI_nat (j := 0) rfl, rfl, _, rfl, iteDT (by decide +kernel) ?_⟩
      exact ⟨_, rfl, _, _, rfl, rfl, _, rfl, p, _, _, _, rfl, rfl, SqT.of hp, atI_nat (j := 2) rfl, (by show 2 ≤ sizeLine; decide), fun l hl => q l hl⟩
    | tick =>
      refine ⟨_, rfl, p, _, _, _, rfl, rfl, SqT.of hp, atI_nat (j := 0) rfl, rfl, _, rfl, iteDF (by decide +kernel) ?_⟩
      refine ⟨_, rfl, p, _, _, _, rfl, rfl, SqT.of hp, atI_nat (j := 0) rfl, rfl, _, rfl, iteDF (by decide +kernel) ?_⟩
      refine ⟨_, rfl, p, _, _, _, rfl, rfl, SqT.of hp, atI_nat (j := 0) rfl, rfl, _, rfl, iteDF (by decide +kernel) ?_⟩
      exact ⟨_, rfl, _, _, rfl, rfl, (by show 1 ≤ sizeLine; decide), fun l hl => q l hl⟩
    | num =>
      refine ⟨_, rfl, p, _, _, _, rfl, rfl, SqT.of hp, atI_nat (j := 0) rfl, rfl, _, rfl, iteDF (by decide +kernel) ?_⟩
      refine ⟨_, rfl, p, _, _, _, rfl, rfl, SqT.of hp, atI_nat (j := 0) rfl, rfl, _, rfl, iteDF (by decide +kernel) ?_⟩
      refine ⟨_, rfl, p, _, _, _, rfl, rfl, SqT.of hp, atI_nat (j := 0) rfl, rfl, _, rfl, iteDF (by decide +kernel) ?_⟩
      exact ⟨_, rfl, _, _, rfl, rfl, (by show 1 ≤ sizeLine; decide), fun l hl => q l hl⟩

/-! ### came_to -/
def keysV (ks : List Nat) : List (Key × V) := ks.map fun k : Nat => ((Sum.inl (k : Int) : Key), V.bl true)
theorem keysV_no : ∀ {ks : List Nat} {k : Nat}, k ∉ ks → valV (keysV ks) (Sum.inl (k : Int) : Key) = none
  | [], _, _ => rfl
  | j :: ks, k, h => by
    have h1 : k ≠ j := fun e => h (by simp [e])
    have h2 : k ∉ ks := fun q => h (List.mem_cons_of_mem _ q)
    show valV (((Sum.inl (j : Int) : Key), V.bl true) :: keysV ks) _ = none
    rw [valV_neg (by
      intro e
      have := Sum.inl.inj e
      omega)]
    exact keysV_no h2
theorem keysV_in : ∀ {ks : List Nat} {k : Nat}, k ∈ ks → ∃ v, valV (keysV ks) (Sum.inl (k : Int) : Key) = some v
  | j :: ks, k, h => by
    by_cases e : k = j
    · subst e
      exact ⟨_, valV_pos rfl⟩
    · have h2 : k ∈ ks := (List.mem_cons.mp h).resolve_left e
      obtain ⟨v, q⟩ := keysV_in h2
      refine ⟨v, ?_⟩
      show valV (((Sum.inl (j : Int) : Key), V.bl true) :: keysV ks) _ = some v
      rw [valV_neg (by
        intro e'
        have := Sum.inl.inj e'
        omega)]
      exact q
theorem ints_nat (l : List Nat) : (l.map fun j : Nat => V.int (j : Int)) = (l.map fun j : Nat => (j : Int)).map V.int := by
  rw [List.map_map]
  rfl
theorem neLine {l : List Nat} : (!PyData.eqv (.list ((l.map fun j : Nat => (j : Int)).map PyData.int)) (.list (([] : List Int).map PyData.int))) = !l.isEmpty := by
  rw [eqvInts]
  cases l <;> simp
def spCame (K : PySem.W.Frag) : Sp := fun vs H Q _ => ∃ (a : Addr) (rs : List RW), vs = [.ref a] ∧ RowsAt K H a rs ∧ rs.length ≤ 30 ∧
  ∀ (H' : Hp) (p : Addr) (ns : List Int), Same H H' → H p = none → IsAns rs ns → H' p = some (.lst (ns.map V.int)) → Q (.ref p) H'
theorem ok_came_to (T : Tx K mg) : FnOk P w K mg base CX0 2 T.f_came_to T.d_came_to ["rows"] (spCame K) := by
  refine T.F_came_to.ok sc_came_to (fun vs H Q E h => ?_) (fun cdv A outer s H vs Q E hr h => ?_)
  · obtain ⟨a, rs, rfl, _⟩ := h
    rfl
  · obtain ⟨a, rs, rfl, R, hn, q⟩ := h
    have hu := hu_of hr
    refine ⟨_, (pss_cons (ps_set (i := 1) sc_came_to.nd rfl (Or.inl rfl) pe_dnewK)
      (pss_cons (ps_set (i := 2) sc_came_to.nd rfl (Or.inl rfl) (pe_lst (pa_cons pe_int pa_nil)))
      (pss_cons (ps_while PassesOwn.never (pt_cmpR (neDK (K := K) rfl hr.units) (pv 2) (pe_lst pa_nil) (nomark _))
        (pss_cons (ps_set (i := 3) sc_came_to.nd rfl (Or.inl rfl) (pe_bm0 PySem.F.plainAttrs_list PySem.F.slot_list_pop PySem.F.type_list_pop mt_pop (pv 2)))
        (pss_cons (ps_if (PW.pt (pw_or (pt_cmp (pc_din hu (pv 3) (pv 1))) (pw_or1 (pt_cmpR op_ge (pv 3) (pe_callB (len_seqK (K := K) rfl) (by rfl) T.n_len PySem.boot_len (pa_cons (pv 0) pa_nil)) (nomark _)))))
          (pss_one ps_continue)
          pss_nil)
        (pss_cons (ps_dput hu (pv 1) (pv 3) pe_bl rfl)
        (pss_one (ps_expr (pe_bm PySem.F.plainAttrs_list PySem.F.slot_list_extend PySem.F.type_list_extend mt_extend (pv 2) (pa_cons (pe_call (ok_may_come T) (hr.mono (by decide)) rfl T.m_may_come T.F_may_come.kp T.B_may_come .nil pass0 (pa_cons (pv 0) (pa_cons (pv 3) pa_nil))) pa_nil))))))))
      (pss_one (ps_ret (pe_callB (call_sortedDI rfl) (by rfl) T.n_sorted PyProof.Rows.boot_sorted (pa_cons (pv 1) pa_nil))))))), ?_⟩
    intro d hd
    refine ⟨(by show 1 ≤ sizeLine; decide), fun l hl => ?_⟩
    have ldn : l ≠ d := fun e => by
      rw [e, upd_same] at hl
      cases hl
    have hl0 : H l = none := by
      rw [upd_ne ldn] at hl
      exact hl
    refine ⟨fun m σ H2 => ∃ (ks ln : List Nat) (v : Option V), m = 3 * (rs.length - ks.length) + ln.length ∧ m ≤ 91 ∧ σ = [some (.ref a), some (.ref d), some (.ref l), v] ∧ Same H H2 ∧ H2 d = some (.dK (keysV ks)) ∧ H2 l = some (.lst (ln.map fun j : Nat => V.int (j : Int))) ∧ Seeing rs ks ln,
      ⟨_, [], [0], none, rfl, by simp; omega, rfl, same_updT (same_upd hd) hl0, by rw [upd_ne ldn.symm, upd_same]; rfl, upd_same, Seeing.start rs⟩, ?_⟩
    rintro m σ H2 ⟨ks, ln, v, hm, hm91, rfl, sm, hD, hL, S⟩
    have R2 := R.same sm
    -- while line != []
    refine ⟨_, rfl, Nat.zero_le _, fun p0 hp0 => ?_⟩
    have hL' : (upd H2 p0 (.lst [])) l = some (.lst (ln.map fun j : Nat => V.int (j : Int))) := same_upd hp0 _ _ hL
    have hD' : (upd H2 p0 (.lst [])) d = some (.dK (keysV ks)) := same_upd hp0 _ _ hD
    have sm' : Same H (upd H2 p0 (.lst [])) := sm.trans (same_upd hp0)
    have R2 := R.same sm'
    have hP' : (upd H2 p0 (.lst [])) p0 = some (.lst []) := upd_same
    generalize upd H2 p0 (.lst []) = H3 at hL' hD' sm' R2 hP'
    refine ⟨.list ((ln.map fun j : Nat => (j : Int)).map .int), .list (([] : List Int).map .int), dpIntL (SqL.of (by rw [← ints_nat]; exact hL')), dpIntL (SqL.of hP'), shInts _, shInts _, ?_⟩
    rw [neLine]
    refine ⟨_, rfl, ?_⟩
    rcases List.eq_nil_or_concat ln with e | ⟨ln, k, e⟩
    · subst e
      refine iteBF rfl ?_
      -- sorted(seen)
      refine ⟨_, rfl, d, _, (ks.map fun k : Nat => (k : Int)), rfl, .inl hD', ?_, ?_, fun ys p hp1 hp2 hp3 => ?_⟩
      · unfold keysV
        rw [List.map_map, List.map_map]
        rfl
      · have := nodup_len S.nd S.lt
        rw [List.length_map]
        omega
      · exact q _ _ _ (same_updT sm' (sm'.free hp3)) (sm'.free hp3) (S.done hp1 hp2) upd_same
    · have e' : ln ++ [k] = ln.concat k := by simp
      rw [← e'] at e
      subst e
      refine iteBT (by simp) ?_
      simp only [List.length_append, List.length_cons, List.length_nil] at hm
      refine ⟨_, fun σ' H' w => w, ?_⟩
      -- at = line.pop()
      refine ⟨_, rfl, .inl ⟨rfl, _, SqL.of hL'⟩, l, _, .int (k : Int), rfl, rfl, hL', by simp, ?_⟩
      have hL2 : (upd H3 l (.lst ((ln ++ [k]).map fun j : Nat => V.int (j : Int)).dropLast)) l = some (.lst (ln.map fun j : Nat => V.int (j : Int))) := by
        rw [upd_same]
        simp
      have hD2 : (upd H3 l (.lst ((ln ++ [k]).map fun j : Nat => V.int (j : Int)).dropLast)) d = some (.dK (keysV ks)) := by rw [upd_ne ldn.symm]; exact hD'
      have sm2 : Same H (upd H3 l (.lst ((ln ++ [k]).map fun j : Nat => V.int (j : Int)).dropLast)) := same_updT sm' hl0
      have R3 := R.same sm2
      generalize upd H3 l (.lst ((ln ++ [k]).map fun j : Nat => V.int (j : Int)).dropLast) = H4 at hL2 hD2 sm2 R3
      refine ⟨_, rfl, _, rfl, d, _, rfl, DGet.k (k := Sum.inl (k : Int)) hD2, _, rfl, ?_⟩
      have skip : (k ∈ ks ∨ rs.length ≤ k) → ∃ m', m' < m ∧ ∃ (ks' ln' : List Nat) (v : Option V), m' = 3 * (rs.length - ks'.length) + ln'.length ∧ m' ≤ 91 ∧ [some (V.ref a), some (.ref d), some (.ref l), some (.int (k : Int))] = [some (V.ref a), some (.ref d), some (.ref l), v] ∧ Same H H4 ∧ H4 d = some (.dK (keysV ks')) ∧ H4 l = some (.lst (ln'.map fun j : Nat => V.int (j : Int))) ∧ Seeing rs ks' ln' := fun h =>
        ⟨3 * (rs.length - ks.length) + ln.length, by omega, ks, ln, _, rfl, by omega, rfl, sm2, hD2, hL2, S.skip h⟩
      by_cases hk : k ∈ ks
      · obtain ⟨v', e⟩ := keysV_in hk
        rw [e]
        refine iteT ?_
        exact iteT (skip (.inl hk))
      · rw [keysV_no hk]
        refine iteF ?_
        obtain ⟨xs, hT, hxs⟩ := R3.len
        refine ⟨_, rfl, _, rfl, a, _, rfl, .inr hT, _, _, rfl, rfl, _, rfl, ?_⟩
        by_cases hge : rs.length ≤ k
        · refine iteDT (by rw [hxs]; omega) ?_
          exact skip (.inr hge)
        · refine iteDF (by rw [hxs]; omega) ?_
          obtain ⟨r, hkr⟩ : ∃ r, rs[k]? = some r := ⟨_, List.getElem?_eq_getElem (by omega)⟩
          have S2 := S.look hk hkr
          have hks := nodup_len S2.nd S2.lt
          simp only [List.length_append, List.length_cons, List.length_nil] at hks
          have hnx := nx_len r k
          -- seen[at] = True
          refine ⟨_, rfl, _, rfl, d, _, rfl, DPut.k (k := Sum.inl (k : Int)) hD2 ?_, ?_⟩
          · unfold keysV
            rw [List.length_map]
            exact small1000 (by omega)
          have hD3 : (upd H4 d (.dK (putK (keysV ks) (Sum.inl (k : Int) : Key) (V.bl true)))) d = some (.dK (keysV (ks ++ [k]))) := by
            rw [upd_same, putK_new _ (keysV_no hk)]
            unfold keysV
            rw [List.map_append]
            rfl
          have hL3 : (upd H4 d (.dK (putK (keysV ks) (Sum.inl (k : Int) : Key) (V.bl true)))) l = some (.lst (ln.map fun j : Nat => V.int (j : Int))) := by rw [upd_ne ldn]; exact hL2
          have sm3 : Same H (upd H4 d (.dK (putK (keysV ks) (Sum.inl (k : Int) : Key) (V.bl true)))) := same_updT sm2 hd
          have R4 := R.same sm3
          generalize upd H4 d (.dK (putK (keysV ks) (Sum.inl (k : Int) : Key) (V.bl true))) = H5 at hL3 hD3 sm3 R4
          -- line.extend(may_come(rows, at))
          refine ⟨_, rfl, .inl ⟨rfl, _, SqL.of hL3⟩, _, rfl, _, rfl, a, rs, k, r, rfl, R4, hkr, fun p hp => ?_⟩
          have pl : l ≠ p := ne_of_none hL3 hp
          refine ⟨l, p, _, _, rfl, rfl, same_upd hp _ _ hL3, upd_same, ?_, ?_⟩
          · rw [List.length_map, List.length_map]
            exact Nat.le_of_lt (small1000 (by omega))
          · refine ⟨_, ?_, ks ++ [k], ln ++ r.nx k, _, rfl, ?_, rfl, same_updT (same_updT sm3 (sm3.free hp)) hl0, ?_, ?_, S2⟩
            · simp only [List.length_append, List.length_cons, List.length_nil]
              omega
            · simp only [List.length_append, List.length_cons, List.length_nil]
              omega
            · rw [upd_ne ldn.symm]
              exact same_upd hp _ _ hD3
            · rw [upd_same, List.map_append]

/-! ### the law's rows -/
def rowJ (j t : Nat) : RW := match j with
  | 0 => .tick
  | 1 => .back
  | 2 => .jump t
  | 3 => .zero 0 t
  | 4 => .num
  | 5 => .zero 1 t
  | _ => .jump t
def rowOf (c : Int) (m : Nat) : RW := rowJ (c % 7).toNat (c / 8 % ((m : Int) + 1)).toNat
def manyF (ns : List Int) : Nat := (cellF ns 0 % 31).toNat
def rowsF (ns : List Int) : List RW := (List.range (manyF ns)).map fun k => rowOf (mixF (cellF ns 1) k) (manyF ns)
theorem manyF_eq (ns : List Int) : cellF ns 0 % 31 = (manyF ns : Int) := by
  have := Int.emod_nonneg (cellF ns 0) (by decide : (31 : Int) ≠ 0)
  unfold manyF
  omega
theorem manyF_le (ns : List Int) : manyF ns ≤ 30 := by
  have := manyF_eq ns
  have := Int.emod_lt_of_pos (cellF ns 0) (by decide : (0 : Int) < 31)
  omega
theorem rowsF_len (ns : List Int) : (rowsF ns).length = manyF ns := by
  unfold rowsF
  rw [List.length_map, List.length_range]
theorem rowsF_at {ns : List Int} {i : Nat} {r : RW} (h : (rowsF ns)[i]? = some r) : i < manyF ns ∧ r = rowOf (mixF (cellF ns 1) i) (manyF ns) := by
  have hi := (List.getElem?_eq_some_iff.mp h).1
  rw [rowsF_len] at hi
  unfold rowsF at h
  rw [List.getElem?_map, List.getElem?_range hi] at h
  exact ⟨hi, (Option.some.inj h).symm⟩
def spRows (K : PySem.W.Frag) : Sp := fun vs H Q _ => ∃ (a : Addr) (ns : List Int), vs = [.ref a] ∧ SqL K H a (ns.map V.int) ∧
  ∀ (H' : Hp) (p : Addr), Same H H' → H p = none → RowsAt K H' p (rowsF ns) → Q (.ref p) H'
theorem ok_l_rows (T : Tx K mg) : FnOk P w K mg base CX0 2 T.f_l_rows T.d_l_rows ["_law_script"] (spRows K) := by
  refine T.F_l_rows.ok sc_l_rows (fun vs H Q E h => ?_) (fun cdv A outer s H vs Q E hr h => ?_)
  · obtain ⟨a, ns, rfl, _⟩ := h
    rfl
  · obtain ⟨a, ns, rfl, hS, q⟩ := h
    refine ⟨_, (pss_cons (ps_set (i := 1) sc_l_rows.nd rfl (Or.inl rfl) (pe_op op_mod (pe_call (ok_l_cell T) (hr.mono (by decide)) rfl T.m_l_cell T.F_l_cell.kp T.B_l_cell .nil pass0 (pa_cons (pv 0) (pa_cons pe_int pa_nil))) pe_int))
      (pss_cons (ps_set (i := 2) sc_l_rows.nd rfl (Or.inl rfl) (pe_lst pa_nil))
      (pss_cons (ps_for PassesOwn.never rfl (pi_range1 rfl T.n_range (pa_cons (pv 1) pa_nil)) (pg_name (i := 3) sc_l_rows.nd rfl (Or.inl rfl))
        (pss_cons (ps_set (i := 4) sc_l_rows.nd rfl (Or.inl rfl) (pe_call (ok_l_mixed T) (hr.mono (by decide)) rfl T.m_l_mixed T.F_l_mixed.kp T.B_l_mixed .nil pass0 (pa_cons (pe_call (ok_l_cell T) (hr.mono (by decide)) rfl T.m_l_cell T.F_l_cell.kp T.B_l_cell .nil pass0 (pa_cons (pv 0) (pa_cons pe_int pa_nil))) (pa_cons (pv 3) pa_nil))))
        (pss_cons (ps_set (i := 5) sc_l_rows.nd rfl (Or.inl rfl) (pe_op op_mod (pe_op op_fdiv (pv 4) pe_int) (pe_op op_add (pv 1) pe_int)))
        (pss_cons (ps_set (i := 6) sc_l_rows.nd rfl (Or.inl rfl) (pe_lst (pa_cons (pe_tup (pa_cons pe_str pa_nil)) (pa_cons (pe_tup (pa_cons pe_str (pa_cons (pe_un un_neg pe_int) pa_nil))) (pa_cons (pe_tup (pa_cons pe_str (pa_cons (pv 5) pa_nil))) (pa_cons (pe_tup (pa_cons pe_str (pa_cons pe_int (pa_cons (pv 5) pa_nil)))) (pa_cons (pe_tup (pa_cons pe_str (pa_cons pe_int (pa_cons pe_int pa_nil)))) (pa_cons (pe_tup (pa_cons pe_str (pa_cons pe_int (pa_cons (pv 5) pa_nil)))) (pa_cons (pe_tup (pa_cons pe_str (pa_cons (pv 5) pa_nil))) pa_nil)))))))))
        (pss_one (ps_expr (pe_bm PySem.F.plainAttrs_list PySem.F.slot_list_append PySem.F.type_list_append mt_append (pv 2) (pa_cons (pe_ix (ix_listK (K := K) rfl) (pv 6) (pe_op op_mod (pv 4) pe_int) (fun _ _ => rfl)) pa_nil))))))))
      (pss_one (ps_ret (pe_callTy (tuple_ofK (K := K) rfl) (by rfl) T.n_tuple PyProof.Rows.boot_tuple (pa_cons (pv 2) pa_nil))))))), ?_⟩
    refine ⟨_, rfl, a, ns, 0, rfl, hS, _, _, rfl, rfl, (by show (0 : Int) < 31; decide), ?_⟩
    dsimp only
    rw [manyF_eq]
    refine ⟨Nat.zero_le _, fun l hl => ?_⟩
    have hm := manyF_le ns
    refine ⟨_, rfl, _, rfl, by omega, by omega, ?_⟩
    rw [Int.toNat_natCast]
    refine for_range (lo := 0) (n := manyF ns) (fun i σ H2 => ∃ (ps : List Addr) (v1 v2 v3 v4 : Option V), σ = [some (.ref a), some (.int (manyF ns : Int)), some (.ref l), v1, v2, v3, v4] ∧ Same H H2 ∧ H2 l = some (.lst (ps.map V.ref)) ∧ ps.length = i ∧
      ∀ j, j < i → ∃ p, ps[j]? = some p ∧ H2 p = some (.tup (rowV (rowOf (mixF (cellF ns 1) j) (manyF ns))))) ⟨[], none, none, none, none, rfl, same_upd hl, upd_same, rfl, fun j h => absurd h (Nat.not_lt_zero _)⟩ ?_ ?_
    · rintro i σ H2 hi ⟨ps, v1, v2, v3, v4, rfl, sm, hL, hps, hrow⟩
      have hc0 := mixF_nn (cellF ns 1) i
      -- _law_cell_here = _law_mixed(_law_cell(_law_script, 1), _law_k)
      refine ⟨_, rfl, a, ns, 1, rfl, sm.seq hS, _, rfl, cellF ns 1, i, ?_, ?_⟩
      · show [V.int (cellF ns 1), V.int (0 + (i : Int))] = _
        rw [Int.zero_add]
      have hi0 : (0 : Int) + (i : Int) = i := Int.zero_add _
      rw [hi0]
      generalize hcc : mixF (cellF ns 1) i = c at hc0
      -- _law_to
      refine ⟨_, rfl, _, _, rfl, rfl, ⟨by decide, by decide⟩, _, rfl, _, _, rfl, rfl, _, _, rfl, rfl, (by show (0 : Int) < (manyF ns : Int) + 1; omega), ?_⟩
      have ht0 : 0 ≤ c / 8 % ((manyF ns : Int) + 1) := Int.emod_nonneg _ (by omega)
      obtain ⟨t, ht⟩ : ∃ t : Nat, c / 8 % ((manyF ns : Int) + 1) = (t : Int) := ⟨_, (Int.toNat_of_nonneg ht0).symm⟩
      dsimp only
      rw [ht]
      have htt : (c / 8 % ((manyF ns : Int) + 1)).toNat = t := by rw [ht, Int.toNat_natCast]
      -- _law_some
      refine ⟨(by show 1 ≤ sizeLine; decide), fun p0 h0 => ⟨_, rfl, (by show 2 ≤ sizeLine; decide), fun p1 h1 => ⟨_, rfl, (by show 2 ≤ sizeLine; decide), fun p2 h2 => ⟨_, rfl, (by show 3 ≤ sizeLine; decide), fun p3 h3 => ⟨(by show 3 ≤ sizeLine; decide), fun p4 h4 => ⟨_, rfl, (by show 3 ≤ sizeLine; decide), fun p5 h5 => ⟨_, rfl, (by show 2 ≤ sizeLine; decide), fun p6 h6 => ⟨(by show 7 ≤ sizeLine; decide), fun g hg => ?_⟩⟩⟩⟩⟩⟩⟩⟩
      have s0 := same_upd (o := .tup [V.str "tick"]) h0
      have s1 := same_upd (o := .tup [V.str "back", .int (-1)]) h1
      have s2 := same_upd (o := .tup [V.str "jump", .int (t : Int)]) h2
      have s3 := same_upd (o := .tup [V.str "zero", .int 0, .int (t : Int)]) h3
      have s4 := same_upd (o := .tup [V.str "num", .int 0, .int 5]) h4
      have s5 := same_upd (o := .tup [V.str "zero", .int 1, .int (t : Int)]) h5
      have s6 := same_upd (o := .tup [V.str "jump", .int (t : Int)]) h6
      have s7 := same_upd (o := .lst [V.ref p0, .ref p1, .ref p2, .ref p3, .ref p4, .ref p5, .ref p6]) hg
      have a7 := upd_same (H := upd (upd (upd (upd (upd (upd (upd H2 p0 (.tup [V.str "tick"])) p1 (.tup [V.str "back", .int (-1)])) p2 (.tup [V.str "jump", .int (t : Int)])) p3 (.tup [V.str "zero", .int 0, .int (t : Int)])) p4 (.tup [V.str "num", .int 0, .int 5])) p5 (.tup [V.str "zero", .int 1, .int (t : Int)])) p6 (.tup [V.str "jump", .int (t : Int)])) (a := g) (o := .lst [V.ref p0, .ref p1, .ref p2, .ref p3, .ref p4, .ref p5, .ref p6])
      have a0 := s7 _ _ (s6 _ _ (s5 _ _ (s4 _ _ (s3 _ _ (s2 _ _ (s1 _ _ (upd_same (H := H2) (a := p0) (o := .tup [V.str "tick"]))))))))
      have a1 := s7 _ _ (s6 _ _ (s5 _ _ (s4 _ _ (s3 _ _ (s2 _ _ (upd_same (a := p1) (o := .tup [V.str "back", .int (-1)])))))))
      have a2 := s7 _ _ (s6 _ _ (s5 _ _ (s4 _ _ (s3 _ _ (upd_same (a := p2) (o := .tup [V.str "jump", .int (t : Int)]))))))
      have a3 := s7 _ _ (s6 _ _ (s5 _ _ (s4 _ _ (upd_same (a := p3) (o := .tup [V.str "zero", .int 0, .int (t : Int)])))))
      have a4 := s7 _ _ (s6 _ _ (s5 _ _ (upd_same (a := p4) (o := .tup [V.str "num", .int 0, .int 5]))))
      have a5 := s7 _ _ (s6 _ _ (upd_same (a := p5) (o := .tup [V.str "zero", .int 1, .int (t : Int)])))
      have a6 := s7 _ _ (upd_same (a := p6) (o := .tup [V.str "jump", .int (t : Int)]))
      have sB := s0.trans (s1.trans (s2.trans (s3.trans (s4.trans (s5.trans s6)))))
      have hg0 : H2 g = none := sB.free hg
      have sA := sB.trans s7
      have hL7 := sA _ _ hL
      generalize hX : upd (upd (upd (upd (upd (upd (upd (upd H2 p0 (.tup [V.str "tick"])) p1 (.tup [V.str "back", .int (-1)])) p2 (.tup [V.str "jump", .int (t : Int)])) p3 (.tup [V.str "zero", .int 0, .int (t : Int)])) p4 (.tup [V.str "num", .int 0, .int 5])) p5 (.tup [V.str "zero", .int 1, .int (t : Int)])) p6 (.tup [V.str "jump", .int (t : Int)])) g (.lst [V.ref p0, .ref p1, .ref p2, .ref p3, .ref p4, .ref p5, .ref p6]) = HX at a0 a1 a2 a3 a4 a5 a6 a7 sA hL7
      obtain ⟨pj, hat, hrj⟩ : ∃ pj, atI [V.ref p0, .ref p1, .ref p2, .ref p3, .ref p4, .ref p5, .ref p6] (c % 7) = some (.ref pj) ∧ HX pj = some (.tup (rowV (rowOf c (manyF ns)))) := by
        have h7 : 0 ≤ c % 7 := Int.emod_nonneg _ (by decide)
        have h7' : c % 7 < 7 := Int.emod_lt_of_pos _ (by decide)
        obtain ⟨j, hj⟩ : ∃ j : Nat, c % 7 = (j : Int) := ⟨_, (Int.toNat_of_nonneg h7).symm⟩
        rw [hj] at h7' ⊢
        have hjn : (c % 7).toNat = j := by omega
        have hj7 : j < 7 := by omega
        have e : rowOf c (manyF ns) = rowJ j t := by
          unfold rowOf
          rw [hjn, htt]
        rw [e]
        match j, hj7 with
        | 0, _ => exact ⟨p0, atI_nat (j := 0) rfl, a0⟩
        | 1, _ => exact ⟨p1, atI_nat (j := 1) rfl, a1⟩
        | 2, _ => exact ⟨p2, atI_nat (j := 2) rfl, a2⟩
        | 3, _ => exact ⟨p3, atI_nat (j := 3) rfl, a3⟩
        | 4, _ => exact ⟨p4, atI_nat (j := 4) rfl, a4⟩
        | 5, _ => exact ⟨p5, atI_nat (j := 5) rfl, a5⟩
        | 6, _ => exact ⟨p6, atI_nat (j := 6) rfl, a6⟩
      refine ⟨_, rfl, .inl ⟨rfl, _, SqL.of hL7⟩, _, rfl, _, rfl, _, _, rfl, rfl, (by show (0 : Int) < 7; decide), g, _, _, _, rfl, rfl, SqL.of a7, hat, l, _, _, rfl, rfl, hL7, ?_, ?_⟩
      · rw [List.length_map]
        exact small1000 (by omega)
      · have smX := sm.trans sA
        have hpl : pj ≠ l := ne_of hrj hL7 (by intro z; cases z)
        refine ⟨ps ++ [pj], _, _, _, _, rfl, same_updT smX hl, by rw [upd_same, List.map_append] <;> rfl, by simp [hps], fun j hj => ?_⟩
        by_cases e : j < i
        · obtain ⟨pp, e1, e2⟩ := hrow j e
          have n2 : pp ≠ l := ne_of e2 hL (by intro z; cases z)
          exact ⟨pp, by rw [List.getElem?_append_left (by omega)]; exact e1, by rw [upd_ne n2]; exact sA _ _ e2⟩
        · have e' : j = i := by omega
          subst e'
          refine ⟨pj, ?_, ?_⟩
          · rw [← hps]
            simp
          · rw [upd_ne hpl, hcc]
            exact hrj
    · rintro σ H2 ⟨ps, v1, v2, v3, v4, rfl, sm, hL, hps, hrow⟩
      refine ⟨_, rfl, l, _, rfl, .inl ⟨SqL.of hL, fun p hp => ?_⟩⟩
      refine q _ p (same_updT sm (sm.free hp)) (sm.free hp) ⟨ps, SqT.of upd_same, by rw [hps, rowsF_len], fun i r h => ?_⟩
      obtain ⟨hi, e⟩ := rowsF_at h
      obtain ⟨pp, e1, e2⟩ := hrow i hi
      exact ⟨pp, e1, by rw [e]; exact same_upd hp _ _ e2⟩

/-! ### the law's rounds -/
def vN (l : List Nat) : List V := l.map fun j : Nat => V.int (j : Int)
theorem vN_int (l : List Nat) : vN l = (l.map fun j : Nat => (j : Int)).map V.int := ints_nat l
theorem vN_len (l : List Nat) : (vN l).length = l.length := List.length_map _
theorem inN (z : Nat) (l : List Nat) : inV (.int (z : Int)) (vN l) = l.contains z := by
  rw [vN_int, inInts, Bool.eq_iff_iff]
  simp only [decide_eq_true_eq, List.mem_map, List.contains_iff_mem]
  exact ⟨fun ⟨x, h, e⟩ => by have e' : x = z := by omega
                             exact e' ▸ h, fun h => ⟨z, h, rfl⟩⟩
def keepOf (rs : List RW) (seen : List Nat) (x : Nat) : Bool := decide (x < rs.length) && !seen.contains x
theorem addOf_eq {rs : List RW} {k : Nat} {r : RW} {seen : List Nat} (h : rs[k]? = some r) : addOf rs k seen = (r.lw k).filter (keepOf rs seen) := by
  unfold addOf
  rw [h]
  rfl
def spReach (K : PySem.W.Frag) : Sp := fun vs H Q _ => ∃ (a : Addr) (rs : List RW), vs = [.ref a] ∧ RowsAt K H a rs ∧ rs.length ≤ 30 ∧
  ∀ (H' : Hp) (p : Addr) (ns : List Int), Same H H' → H p = none → IsAns rs ns → H' p = some (.lst (ns.map V.int)) → Q (.ref p) H'
theorem ok_l_reached (T : Tx K mg) : FnOk P w K mg base CX0 1 T.f_l_reached T.d_l_reached ["_law_rows_here"] (spReach K) := by
  refine T.F_l_reached.ok sc_l_reached (fun vs H Q E h => ?_) (fun cdv A outer s H vs Q E hr h => ?_)
  · obtain ⟨a, rs, rfl, _⟩ := h
    rfl
  · obtain ⟨a, rs, rfl, R, hn, q⟩ := h
    have hu := hu_of hr
    refine ⟨_, (pss_cons (ps_set (i := 1) sc_l_reached.nd rfl (Or.inr rfl) (pe_slice sl_list (pe_lst (pa_cons pe_int pa_nil)) po_none (po_some (pe_callB (len_seqK (K := K) rfl) (by rfl) T.n_len PySem.boot_len (pa_cons (pv 0) pa_nil)))))
      (pss_cons (ps_for PassesOwn.never rfl (pi_range1 rfl T.n_range (pa_cons (pe_callB (len_seqK (K := K) rfl) (by rfl) T.n_len PySem.boot_len (pa_cons (pv 0) pa_nil)) pa_nil)) (pg_name (i := 2) sc_l_reached.nd rfl (Or.inl rfl))
        (pss_one (ps_for PassesOwn.never rfl (pi_list (pe_callTy (list_ofK (K := K) rfl) (by rfl) T.n_list PyProof.Rows.boot_list (pa_cons (pv 1) pa_nil))) (pg_name (i := 3) sc_l_reached.nd rfl (Or.inl rfl))
          (pss_cons (ps_set (i := 4) sc_l_reached.nd rfl (Or.inl rfl) (pe_lst (pa_cons (pe_op op_add (pv 3) pe_int) pa_nil)))
          (pss_cons (ps_if (pt_cmpR (in_seqK (K := K) rfl) (pe_ix (ix_tupK (K := K) rfl) (pe_ix (ix_tupK (K := K) rfl) (pv 0) (pv 3) (fun _ _ => rfl)) pe_int (fun _ _ => rfl)) (pe_tup (pa_cons pe_str (pa_cons pe_str pa_nil))) (by rfl))
            (pss_one (ps_set (i := 4) sc_l_reached.nd rfl (Or.inl rfl) (pe_slice sl_list (pe_lst (pa_cons (pe_ix (ix_tupK (K := K) rfl) (pe_ix (ix_tupK (K := K) rfl) (pv 0) (pv 3) (fun _ _ => rfl)) (pe_un un_neg pe_int) (fun _ _ => rfl)) (pa_cons (pe_op op_add (pv 3) pe_int) pa_nil))) po_none (po_some (pe_op op_add pe_int (pe_callTy call_int1 (by rfl) T.n_int PyProof.Rows.boot_int (pa_cons (pe_cmpR op_eq (pe_ix (ix_tupK (K := K) rfl) (pe_ix (ix_tupK (K := K) rfl) (pv 0) (pv 3) (fun _ _ => rfl)) pe_int (fun _ _ => rfl)) pe_str (nomark _)) pa_nil)))))))
            pss_nil)
          (pss_cons (ps_if (pt_cmpR op_eq (pe_ix (ix_tupK (K := K) rfl) (pe_ix (ix_tupK (K := K) rfl) (pv 0) (pv 3) (fun _ _ => rfl)) pe_int (fun _ _ => rfl)) pe_str (nomark _))
            (pss_one (ps_set (i := 4) sc_l_reached.nd rfl (Or.inl rfl) (pe_lst pa_nil)))
            pss_nil)
          (pss_one (ps_set (i := 1) sc_l_reached.nd rfl (Or.inr rfl) (pe_op op_cat (pv 1) (pe_lc (own := [("_law_one", 5)]) (g := gName 5) rfl sc_l_reached.nd (pi_list (pv 4)) (blkOk_by (own := [("_law_one", 5)]) (N := ["_law_rows_here", "_law_seen", "_law_turn", "_law_at", "_law_later", "_law_one"]) (sc := defScope s_l_reached) (by decide +kernel)) (fun _ _ _ _ _ => pg_name (i := 5) sc_l_reached.nd rfl (Or.inl rfl)) (fun _ _ _ _ _ => (pts_one (PW.pt (pw_and (pt_cmpR op_lt (pv 5) (pe_callB (len_seqK (K := K) rfl) (by rfl) T.n_len PySem.boot_len (pa_cons (pv 0) pa_nil)) (nomark _)) (pw_and1 (pt_cmpR (notIn_seqK (K := K) rfl) (pv 5) (pv 1) (by rfl))))))) (fun _ _ _ _ _ => (pv 5))))))))))))
      (pss_one (ps_ret (pe_callB (cr_sortedSet rfl) (by rfl) T.n_sorted PyProof.Rows.boot_sorted (pa_cons (pe_callTy (LS.cr_setLI rfl) (by rfl) T.n_set PyProof.Rows.boot_set (pa_cons (pv 1) pa_nil)) pa_nil)))))), ?_⟩
    refine ⟨(by show 1 ≤ sizeLine; decide), fun l0 hl0 => ?_⟩
    have s0 := same_upd (o := .lst [V.int 0]) hl0
    obtain ⟨xs, hT, hxs⟩ := (R.same s0).len
    refine ⟨_, rfl, a, _, rfl, .inr hT, _, rfl, l0, _, rfl, SqL.of upd_same, fun p0 hp0 => ?_⟩
    have s1 := s0.trans (same_upd (o := .lst (cutV [V.int 0] none (some (xs.length : Int)))) hp0)
    have e1 : cutV [V.int 0] none (some (xs.length : Int)) = vN (([0] : List Nat).take rs.length) := by
      rw [cut_hi, hxs]
      unfold vN
      rw [List.map_take]
      rfl
    have hP0 : (upd (upd H l0 (.lst [V.int 0])) p0 (.lst (cutV [V.int 0] none (some (xs.length : Int))))) p0 = some (.lst (vN (([0] : List Nat).take rs.length))) := by rw [upd_same, e1]
    have n0 : H p0 = none := s0.free hp0
    generalize upd (upd H l0 (.lst [V.int 0])) p0 (.lst (cutV [V.int 0] none (some (xs.length : Int)))) = H1 at s1 hP0
    obtain ⟨xs, hT, hxs⟩ := (R.same s1).len
    refine ⟨_, rfl, a, _, rfl, .inr hT, _, rfl, by omega, by omega, ?_⟩
    rw [Int.toNat_natCast, hxs]
    refine for_range (lo := 0) (n := rs.length) (fun i σ H2 => ∃ (p : Addr) (seen : List Nat) (v2 v3 v4 : Option V), σ = [some (.ref a), some (.ref p), v2, v3, v4, none] ∧ Same H H2 ∧ H p = none ∧ H2 p = some (.lst (vN seen)) ∧ Rounds rs i seen)
      ⟨p0, _, none, none, none, rfl, s1, n0, hP0, Rounds.start rs⟩ ?_ ?_
    · rintro i σ H2 hi ⟨p1, seen, v2, v3, v4, rfl, sm, np, hP, RR⟩
      -- for _law_at in list(_law_seen)
      refine ⟨_, rfl, p1, _, rfl, .inl (SqL.of hP), fun c hc => ?_⟩
      have sc := sm.trans (same_upd (o := .lst (vN seen)) hc)
      have hP2 := same_upd (o := .lst (vN seen)) hc _ _ hP
      have hC : (upd H2 c (.lst (vN seen))) c = some (.lst (vN seen)) := upd_same
      have nc : H c = none := sm.free hc
      generalize upd H2 c (.lst (vN seen)) = H3 at sc hP2 hC
      refine ⟨c, rfl, ⟨_, SqL.of hC⟩, for_list (K := K) (a := c) (xs := vN seen) (fun j σ H4 => ∃ (p : Addr) (sn : List Nat) (v3 v4 : Option V), σ = [some (.ref a), some (.ref p), some (.int (0 + (i : Int))), v3, v4, none] ∧ Same H H4 ∧ H p = none ∧ H4 c = some (.lst (vN seen)) ∧ H4 p = some (.lst (vN sn)) ∧ roundGo rs (seen.drop j) sn = roundGo rs seen seen ∧ Twice rs.length sn)
        ⟨p1, seen, _, _, rfl, sc, np, hC, hP2, rfl, RR.tw⟩ (fun j σ H4 _ ⟨_, _, _, _, _, _, _, hC, _⟩ => SqL.of hC) ?_ ?_⟩
      · rintro j x σ H4 hx ⟨p, sn, v3, v4, rfl, sm4, np4, hC4, hP4, hgo, htw⟩
        have hjl : j < seen.length := by
          have := (List.getElem?_eq_some_iff.mp hx).1
          rw [vN_len] at this
          exact this
        obtain ⟨k, hk⟩ : ∃ k, seen[j]? = some k := ⟨_, List.getElem?_eq_getElem hjl⟩
        have ex : x = V.int (k : Int) := by
          unfold vN at hx
          rw [List.getElem?_map, hk] at hx
          exact (Option.some.inj hx).symm
        subst ex
        have hkn : k < rs.length := RR.tw.1 k (List.mem_of_getElem? hk)
        obtain ⟨r, hkr⟩ : ∃ r, rs[k]? = some r := ⟨_, List.getElem?_eq_getElem hkn⟩
        have hdrop : roundGo rs (seen.drop (j + 1)) (sn ++ addOf rs k sn) = roundGo rs seen seen := by
          rw [← hgo, List.drop_eq_getElem_cons hjl]
          have : seen[j] = k := by
            rw [List.getElem?_eq_getElem hjl] at hk
            exact Option.some.inj hk
          rw [this]
          rfl
        have htw2 := twice_add htw k
        have hlen2 := twice_len htw2
        -- later = [at + 1]
        refine ⟨_, rfl, _, _, rfl, rfl, (by show 1 ≤ sizeLine; decide), fun L hL => ?_⟩
        have t1 := same_upd (o := .lst [V.int ((k : Int) + 1)]) hL
        have hL1 : (upd H4 L (.lst [V.int ((k : Int) + 1)])) L = some (.lst [V.int ((k : Int) + 1)]) := upd_same
        have nL : H L = none := sm4.free hL
        generalize upd H4 L (.lst [V.int ((k : Int) + 1)]) = H5 at t1 hL1
        obtain ⟨ps, pr, hT5, hat, hrow⟩ := (R.same (sm4.trans t1)).get hkr
        -- if row[0] in ("jump", "zero")
        refine ⟨_, rfl, _, rfl, a, _, _, _, rfl, rfl, hT5, hat, pr, _, _, rowV r |>.headD .non, rfl, rfl, SqT.of hrow, (by cases r <;> exact atI_nat (j := 0) rfl), (by show 2 ≤ sizeLine; decide), fun g hg => ?_⟩
        have t2 := t1.trans (same_upd (o := .tup [V.str "jump", V.str "zero"]) hg)
        have hrow6 := same_upd (o := .tup [V.str "jump", V.str "zero"]) hg _ _ hrow
        have hL6 := same_upd (o := .tup [V.str "jump", V.str "zero"]) hg _ _ hL1
        have hT6 := sameT (same_upd (o := .tup [V.str "jump", V.str "zero"]) hg) hT5
        have hG6 : (upd H5 g (.tup [V.str "jump", V.str "zero"])) g = some (.tup [V.str "jump", V.str "zero"]) := upd_same
        generalize upd H5 g (.tup [V.str "jump", V.str "zero"]) = H6 at t2 hrow6 hL6 hT6 hG6
        refine ⟨g, _, rfl, .inr (SqT.of hG6), (by cases r <;> rfl), rfl, _, rfl, ?_⟩
        cases r with
        | tick =>
          refine iteBF (by decide +kernel) ?_
          refine ⟨_, rfl, _, rfl, a, _, _, _, rfl, rfl, hT6, hat, pr, _, _, _, rfl, rfl, SqT.of hrow6, atI_nat (j := 0) rfl, rfl, _, rfl, iteDF (by decide +kernel) ?_⟩
          have hPl : H6 L = some (.lst (vN (RW.tick.lw k))) := hL6
          have tt := sm4.trans t2
          have hP8 := t2 _ _ hP4
          have hC8 := t2 _ _ hC4
          have R8 := R.same tt
          have hlw := lw_len (RW.tick) k
          refine ⟨_, rfl, _, rfl, L, rfl, ⟨_, SqL.of hPl⟩, fun D hD => ?_⟩
          have nD : H D = none := tt.free hD
          have dP : p ≠ D := ne_of_none hP8 hD
          have dC : c ≠ D := ne_of_none hC8 hD
          have dL : L ≠ D := ne_of_none hPl hD
          have same : ∀ o, Same H (upd H6 D o) := fun o => same_updT tt nD
          refine lc_list (K := K) (a := L) (xs := vN (RW.lw (RW.tick) k)) (fun j H' => H' = upd H6 D (.lst (vN (((RW.lw (RW.tick) k).take j).filter (keepOf rs sn))))) rfl (fun j H' _ e => by rw [e]; exact SqL.of (by rw [upd_ne dL]; exact hPl)) ?_ ?_
          · rintro j x H' hx e
            subst e
            obtain ⟨y, hy⟩ : ∃ y, (RW.lw (RW.tick) k)[j]? = some y := by
              have := (List.getElem?_eq_some_iff.mp hx).1
              rw [vN_len] at this
              exact ⟨_, List.getElem?_eq_getElem this⟩
            have ex : x = V.int (y : Int) := by
              unfold vN at hx
              rw [List.getElem?_map, hy] at hx
              exact (Option.some.inj hx).symm
            subst ex
            have htk : (RW.lw (RW.tick) k).take (j + 1) = (RW.lw (RW.tick) k).take j ++ [y] := by rw [List.take_add_one, hy]; rfl
            obtain ⟨xs, hT8, hxs8⟩ := (R.same (same (.lst (vN (((RW.lw (RW.tick) k).take j).filter (keepOf rs sn)))))).len
            refine ⟨rfl, _, rfl, _, rfl, a, _, rfl, .inr hT8, _, _, rfl, rfl, _, rfl, ?_⟩
            have stay : keepOf rs sn y = false → upd H6 D (.lst (vN (((RW.lw (RW.tick) k).take j).filter (keepOf rs sn)))) = upd H6 D (.lst (vN (((RW.lw (RW.tick) k).take (j + 1)).filter (keepOf rs sn)))) := fun h => by
              rw [htk, List.filter_append, List.filter_cons, h]
              simp
            by_cases hyn : y < rs.length
            · refine iteDT (by rw [hxs8]; omega) ?_
              refine ⟨_, rfl, _, rfl, p, _, rfl, .inl (SqL.of (by rw [upd_ne dP]; exact hP8)), rfl, by rw [vN_int]; exact flatInts _, _, rfl, ?_⟩
              rw [inN]
              by_cases hys : sn.contains y = true
              · refine iteBF (by rw [hys]; rfl) ?_
                exact stay (by unfold keepOf; rw [hys]; simp)
              · have hys' : sn.contains y = false := by simpa using hys
                refine iteBT (by rw [hys']; rfl) ?_
                refine ⟨_, rfl, _, upd_same, ?_, ?_⟩
                · rw [vN_len]
                  have := List.length_filter_le (keepOf rs sn) ((RW.lw (RW.tick) k).take j)
                  have := List.length_take_le' j (RW.lw (RW.tick) k)
                  exact small1000 (by omega)
                · rw [upd_upd, htk, List.filter_append, List.filter_cons, show keepOf rs sn y = true by unfold keepOf; rw [hys']; simp [hyn]]
                  unfold vN
                  rw [List.map_append]
                  rfl
            · refine iteDF (by rw [hxs8]; omega) ?_
              exact iteF (stay (by unfold keepOf; simp [hyn]))
          · rintro H' e
            rw [vN_len, List.take_length, ← addOf_eq hkr] at e
            subst e
            have hla : (addOf rs k sn).length ≤ 60 := by
              simp only [List.length_append] at hlen2
              omega
            have hls : sn.length ≤ 60 := by
              simp only [List.length_append] at hlen2
              omega
            refine ⟨p, D, _, _, rfl, rfl, by rw [upd_ne dP]; exact hP8, upd_same, ?_, fun p2 hp2 => ?_⟩
            · rw [vN_len, vN_len]
              exact Nat.le_of_lt (small1000 (by omega))
            · have hp2' : H p2 = none := (same _).free hp2
              refine ⟨p2, sn ++ addOf rs k sn, _, _, rfl, same_updT (same _) hp2', hp2', ?_, ?_, hdrop, htw2⟩
              · rw [upd_ne (ne_of_none (show (upd H6 D (.lst (vN (addOf rs k sn)))) c = some (.lst (vN seen)) by rw [upd_ne dC]; exact hC8) hp2), upd_ne dC]
                exact hC8
              · rw [upd_same]
                unfold vN
                rw [List.map_append]
        | num =>
          refine iteBF (by decide +kernel) ?_
          refine ⟨_, rfl, _, rfl, a, _, _, _, rfl, rfl, hT6, hat, pr, _, _, _, rfl, rfl, SqT.of hrow6, atI_nat (j := 0) rfl, rfl, _, rfl, iteDF (by decide +kernel) ?_⟩
          have hPl : H6 L = some (.lst (vN (RW.num.lw k))) := hL6
          have tt := sm4.trans t2
          have hP8 := t2 _ _ hP4
          have hC8 := t2 _ _ hC4
          have R8 := R.same tt
          have hlw := lw_len (RW.num) k
          refine ⟨_, rfl, _, rfl, L, rfl, ⟨_, SqL.of hPl⟩, fun D hD => ?_⟩
          have nD : H D = none := tt.free hD
          have dP : p ≠ D := ne_of_none hP8 hD
          have dC : c ≠ D := ne_of_none hC8 hD
          have dL : L ≠ D := ne_of_none hPl hD
          have same : ∀ o, Same H (upd H6 D o) := fun o => same_updT tt nD
          refine lc_list (K := K) (a := L) (xs := vN (RW.lw (RW.num) k)) (fun j H' => H' = upd H6 D (.lst (vN (((RW.lw (RW.num) k).take j).filter (keepOf rs sn))))) rfl (fun j H' _ e => by rw [e]; exact SqL.of (by rw [upd_ne dL]; exact hPl)) ?_ ?_
          · rintro j x H' hx e
            subst e
            obtain ⟨y, hy⟩ : ∃ y, (RW.lw (RW.num) k)[j]? = some y := by
              have := (List.getElem?_eq_some_iff.mp hx).1
              rw [vN_len] at this
              exact ⟨_, List.getElem?_eq_getElem this⟩
            have ex : x = V.int (y : Int) := by
              unfold vN at hx
              rw [List.getElem?_map, hy] at hx
              exact (Option.some.inj hx).symm
            subst ex
            have htk : (RW.lw (RW.num) k).take (j + 1) = (RW.lw (RW.num) k).take j ++ [y] := by rw [List.take_add_one, hy]; rfl
            obtain ⟨xs, hT8, hxs8⟩ := (R.same (same (.lst (vN (((RW.lw (RW.num) k).take j).filter (keepOf rs sn)))))).len
            refine ⟨rfl, _, rfl, _, rfl, a, _, rfl, .inr hT8, _, _, rfl, rfl, _, rfl, ?_⟩
            have stay : keepOf rs sn y = false → upd H6 D (.lst (vN (((RW.lw (RW.num) k).take j).filter (keepOf rs sn)))) = upd H6 D (.lst (vN (((RW.lw (RW.num) k).take (j + 1)).filter (keepOf rs sn)))) := fun h => by
              rw [htk, List.filter_append, List.filter_cons, h]
              simp
            by_cases hyn : y < rs.length
            · refine iteDT (by rw [hxs8]; omega) ?_
              refine ⟨_, rfl, _, rfl, p, _, rfl, .inl (SqL.of (by rw [upd_ne dP]; exact hP8)), rfl, by rw [vN_int]; exact flatInts _, _, rfl, ?_⟩
              rw [inN]
              by_cases hys : sn.contains y = true
              · refine iteBF (by rw [hys]; rfl) ?_
                exact stay (by unfold keepOf; rw [hys]; simp)
              · have hys' : sn.contains y = false := by simpa using hys
                refine iteBT (by rw [hys']; rfl) ?_
                refine ⟨_, rfl, _, upd_same, ?_, ?_⟩
                · rw [vN_len]
                  have := List.length_filter_le (keepOf rs sn) ((RW.lw (RW.num) k).take j)
                  have := List.length_take_le' j (RW.lw (RW.num) k)
                  exact small1000 (by omega)
                · rw [upd_upd, htk, List.filter_append, List.filter_cons, show keepOf rs sn y = true by unfold keepOf; rw [hys']; simp [hyn]]
                  unfold vN
                  rw [List.map_append]
                  rfl
            · refine iteDF (by rw [hxs8]; omega) ?_
              exact iteF (stay (by unfold keepOf; simp [hyn]))
          · rintro H' e
            rw [vN_len, List.take_length, ← addOf_eq hkr] at e
            subst e
            have hla : (addOf rs k sn).length ≤ 60 := by
              simp only [List.length_append] at hlen2
              omega
            have hls : sn.length ≤ 60 := by
              simp only [List.length_append] at hlen2
              omega
            refine ⟨p, D, _, _, rfl, rfl, by rw [upd_ne dP]; exact hP8, upd_same, ?_, fun p2 hp2 => ?_⟩
            · rw [vN_len, vN_len]
              exact Nat.le_of_lt (small1000 (by omega))
            · have hp2' : H p2 = none := (same _).free hp2
              refine ⟨p2, sn ++ addOf rs k sn, _, _, rfl, same_updT (same _) hp2', hp2', ?_, ?_, hdrop, htw2⟩
              · rw [upd_ne (ne_of_none (show (upd H6 D (.lst (vN (addOf rs k sn)))) c = some (.lst (vN seen)) by rw [upd_ne dC]; exact hC8) hp2), upd_ne dC]
                exact hC8
              · rw [upd_same]
                unfold vN
                rw [List.map_append]
        | back =>
          refine iteBF (by decide +kernel) ?_
          refine ⟨_, rfl, _, rfl, a, _, _, _, rfl, rfl, hT6, hat, pr, _, _, _, rfl, rfl, SqT.of hrow6, atI_nat (j := 0) rfl, rfl, _, rfl, iteDT (by decide +kernel) ?_⟩
          refine ⟨Nat.zero_le _, fun L2 hL2 => ?_⟩
          have t3 := t2.trans (same_upd (o := .lst []) hL2)
          have hPl : (upd H6 L2 (.lst [])) L2 = some (.lst (vN (RW.back.lw k))) := upd_same
          generalize upd H6 L2 (.lst []) = H7 at t3 hPl
          have tt := sm4.trans t3
          have hP8 := t3 _ _ hP4
          have hC8 := t3 _ _ hC4
          have R8 := R.same tt
          have hlw := lw_len (RW.back) k
          refine ⟨_, rfl, _, rfl, L2, rfl, ⟨_, SqL.of hPl⟩, fun D hD => ?_⟩
          have nD : H D = none := tt.free hD
          have dP : p ≠ D := ne_of_none hP8 hD
          have dC : c ≠ D := ne_of_none hC8 hD
          have dL : L2 ≠ D := ne_of_none hPl hD
          have same : ∀ o, Same H (upd H7 D o) := fun o => same_updT tt nD
          refine lc_list (K := K) (a := L2) (xs := vN (RW.lw (RW.back) k)) (fun j H' => H' = upd H7 D (.lst (vN (((RW.lw (RW.back) k).take j).filter (keepOf rs sn))))) rfl (fun j H' _ e => by rw [e]; exact SqL.of (by rw [upd_ne dL]; exact hPl)) ?_ ?_
          · rintro j x H' hx e
            subst e
            obtain ⟨y, hy⟩ : ∃ y, (RW.lw (RW.back) k)[j]? = some y := by
              have := (List.getElem?_eq_some_iff.mp hx).1
              rw [vN_len] at this
              exact ⟨_, List.getElem?_eq_getElem this⟩
            have ex : x = V.int (y : Int) := by
              unfold vN at hx
              rw [List.getElem?_map, hy] at hx
              exact (Option.some.inj hx).symm
            subst ex
            have htk : (RW.lw (RW.back) k).take (j + 1) = (RW.lw (RW.back) k).take j ++ [y] := by rw [List.take_add_one, hy]; rfl
            obtain ⟨xs, hT8, hxs8⟩ := (R.same (same (.lst (vN (((RW.lw (RW.back) k).take j).filter (keepOf rs sn)))))).len
            refine ⟨rfl, _, rfl, _, rfl, a, _, rfl, .inr hT8, _, _, rfl, rfl, _, rfl, ?_⟩
            have stay : keepOf rs sn y = false → upd H7 D (.lst (vN (((RW.lw (RW.back) k).take j).filter (keepOf rs sn)))) = upd H7 D (.lst (vN (((RW.lw (RW.back) k).take (j + 1)).filter (keepOf rs sn)))) := fun h => by
              rw [htk, List.filter_append, List.filter_cons, h]
              simp
            by_cases hyn : y < rs.length
            · refine iteDT (by rw [hxs8]; omega) ?_
              refine ⟨_, rfl, _, rfl, p, _, rfl, .inl (SqL.of (by rw [upd_ne dP]; exact hP8)), rfl, by rw [vN_int]; exact flatInts _, _, rfl, ?_⟩
              rw [inN]
              by_cases hys : sn.contains y = true
              · refine iteBF (by rw [hys]; rfl) ?_
                exact stay (by unfold keepOf; rw [hys]; simp)
              · have hys' : sn.contains y = false := by simpa using hys
                refine iteBT (by rw [hys']; rfl) ?_
                refine ⟨_, rfl, _, upd_same, ?_, ?_⟩
                · rw [vN_len]
                  have := List.length_filter_le (keepOf rs sn) ((RW.lw (RW.back) k).take j)
                  have := List.length_take_le' j (RW.lw (RW.back) k)
                  exact small1000 (by omega)
                · rw [upd_upd, htk, List.filter_append, List.filter_cons, show keepOf rs sn y = true by unfold keepOf; rw [hys']; simp [hyn]]
                  unfold vN
                  rw [List.map_append]
                  rfl
            · refine iteDF (by rw [hxs8]; omega) ?_
              exact iteF (stay (by unfold keepOf; simp [hyn]))
          · rintro H' e
            rw [vN_len, List.take_length, ← addOf_eq hkr] at e
            subst e
            have hla : (addOf rs k sn).length ≤ 60 := by
              simp only [List.length_append] at hlen2
              omega
            have hls : sn.length ≤ 60 := by
              simp only [List.length_append] at hlen2
              omega
            refine ⟨p, D, _, _, rfl, rfl, by rw [upd_ne dP]; exact hP8, upd_same, ?_, fun p2 hp2 => ?_⟩
            · rw [vN_len, vN_len]
              exact Nat.le_of_lt (small1000 (by omega))
            · have hp2' : H p2 = none := (same _).free hp2
              refine ⟨p2, sn ++ addOf rs k sn, _, _, rfl, same_updT (same _) hp2', hp2', ?_, ?_, hdrop, htw2⟩
              · rw [upd_ne (ne_of_none (show (upd H7 D (.lst (vN (addOf rs k sn)))) c = some (.lst (vN seen)) by rw [upd_ne dC]; exact hC8) hp2), upd_ne dC]
                exact hC8
              · rw [upd_same]
                unfold vN
                rw [List.map_append]
        | jump t =>
          refine iteBT (by show inV (V.str "jump") [V.str "jump", V.str "zero"] = true; decide +kernel) ?_
          refine ⟨_, rfl, _, rfl, a, _, _, _, rfl, rfl, hT6, hat, _, rfl, pr, _, _, _, rfl, rfl, SqT.of hrow6, atI_last [V.str "jump"] (.int (t : Int)), _, rfl, _, _, rfl, rfl, (by show 2 ≤ sizeLine; decide), fun L2 hL2 => ?_⟩
          have u1 := same_upd (o := .lst [V.int (t : Int), .int ((k : Int) + 1)]) hL2
          refine ⟨_, rfl, _, rfl, a, _, _, _, rfl, rfl, sameT u1 hT6, hat, pr, _, _, _, rfl, rfl, SqT.of (u1 _ _ hrow6), atI_nat (j := 0) rfl, rfl, .inr ⟨false, congrArg (fun b => [V.bl b]) (decide_eq_false (by decide +kernel)), _, _, rfl, rfl, _, rfl, L2, _, rfl, SqL.of upd_same, fun L3 hL3 => ?_⟩⟩
          have u2 := u1.trans (same_upd (o := .lst (cutV [V.int (t : Int), .int ((k : Int) + 1)] none (some (1 + if false = true then 1 else 0)))) hL3)
          have hPl : (upd (upd H6 L2 (.lst [V.int (t : Int), .int ((k : Int) + 1)])) L3 (.lst (cutV [V.int (t : Int), .int ((k : Int) + 1)] none (some (1 + if false = true then 1 else 0))))) L3 = some (.lst (vN ((RW.jump t).lw k))) := by
            rw [upd_same]
            exact congrArg (fun x => some (HO.lst x)) (cut_hi [V.int (t : Int), .int ((k : Int) + 1)] 1)
          have t3 := t2.trans u2
          have hT7 := sameT u2 hT6
          have hrow7 := u2 _ _ hrow6
          generalize upd (upd H6 L2 (.lst [V.int (t : Int), .int ((k : Int) + 1)])) L3 (.lst (cutV [V.int (t : Int), .int ((k : Int) + 1)] none (some (1 + if false = true then 1 else 0)))) = H7 at t3 hPl hT7 hrow7
          refine ⟨_, rfl, _, rfl, a, _, _, _, rfl, rfl, hT7, hat, pr, _, _, _, rfl, rfl, SqT.of hrow7, atI_nat (j := 0) rfl, rfl, _, rfl, iteDF (by decide +kernel) ?_⟩
          have tt := sm4.trans t3
          have hP8 := t3 _ _ hP4
          have hC8 := t3 _ _ hC4
          have R8 := R.same tt
          have hlw := lw_len (RW.jump t) k
          refine ⟨_, rfl, _, rfl, L3, rfl, ⟨_, SqL.of hPl⟩, fun D hD => ?_⟩
          have nD : H D = none := tt.free hD
          have dP : p ≠ D := ne_of_none hP8 hD
          have dC : c ≠ D := ne_of_none hC8 hD
          have dL : L3 ≠ D := ne_of_none hPl hD
          have same : ∀ o, Same H (upd H7 D o) := fun o => same_updT tt nD
          refine lc_list (K := K) (a := L3) (xs := vN (RW.lw (RW.jump t) k)) (fun j H' => H' = upd H7 D (.lst (vN (((RW.lw (RW.jump t) k).take j).filter (keepOf rs sn))))) rfl (fun j H' _ e => by rw [e]; exact SqL.of (by rw [upd_ne dL]; exact hPl)) ?_ ?_
          · rintro j x H' hx e
            subst e
            obtain ⟨y, hy⟩ : ∃ y, (RW.lw (RW.jump t) k)[j]? = some y := by
              have := (List.getElem?_eq_some_iff.mp hx).1
              rw [vN_len] at this
              exact ⟨_, List.getElem?_eq_getElem this⟩
            have ex : x = V.int (y : Int) := by
              unfold vN at hx
              rw [List.getElem?_map, hy] at hx
              exact (Option.some.inj hx).symm
            subst ex
            have htk : (RW.lw (RW.jump t) k).take (j + 1) = (RW.lw (RW.jump t) k).take j ++ [y] := by rw [List.take_add_one, hy]; rfl
            obtain ⟨xs, hT8, hxs8⟩ := (R.same (same (.lst (vN (((RW.lw (RW.jump t) k).take j).filter (keepOf rs sn)))))).len
            refine ⟨rfl, _, rfl, _, rfl, a, _, rfl, .inr hT8, _, _, rfl, rfl, _, rfl, ?_⟩
            have stay : keepOf rs sn y = false → upd H7 D (.lst (vN (((RW.lw (RW.jump t) k).take j).filter (keepOf rs sn)))) = upd H7 D (.lst (vN (((RW.lw (RW.jump t) k).take (j + 1)).filter (keepOf rs sn)))) := fun h => by
              rw [htk, List.filter_append, List.filter_cons, h]
              simp
            by_cases hyn : y < rs.length
            · refine iteDT (by rw [hxs8]; omega) ?_
              refine ⟨_, rfl, _, rfl, p, _, rfl, .inl (SqL.of (by rw [upd_ne dP]; exact hP8)), rfl, by rw [vN_int]; exact flatInts _, _, rfl, ?_⟩
              rw [inN]
              by_cases hys : sn.contains y = true
              · refine iteBF (by rw [hys]; rfl) ?_
                exact stay (by unfold keepOf; rw [hys]; simp)
              · have hys' : sn.contains y = false := by simpa using hys
                refine iteBT (by rw [hys']; rfl) ?_
                refine ⟨_, rfl, _, upd_same, ?_, ?_⟩
                · rw [vN_len]
                  have := List.length_filter_le (keepOf rs sn) ((RW.lw (RW.jump t) k).take j)
                  have := List.length_take_le' j (RW.lw (RW.jump t) k)
                  exact small1000 (by omega)
                · rw [upd_upd, htk, List.filter_append, List.filter_cons, show keepOf rs sn y = true by unfold keepOf; rw [hys']; simp [hyn]]
                  unfold vN
                  rw [List.map_append]
                  rfl
            · refine iteDF (by rw [hxs8]; omega) ?_
              exact iteF (stay (by unfold keepOf; simp [hyn]))
          · rintro H' e
            rw [vN_len, List.take_length, ← addOf_eq hkr] at e
            subst e
            have hla : (addOf rs k sn).length ≤ 60 := by
              simp only [List.length_append] at hlen2
              omega
            have hls : sn.length ≤ 60 := by
              simp only [List.length_append] at hlen2
              omega
            refine ⟨p, D, _, _, rfl, rfl, by rw [upd_ne dP]; exact hP8, upd_same, ?_, fun p2 hp2 => ?_⟩
            · rw [vN_len, vN_len]
              exact Nat.le_of_lt (small1000 (by omega))
            · have hp2' : H p2 = none := (same _).free hp2
              refine ⟨p2, sn ++ addOf rs k sn, _, _, rfl, same_updT (same _) hp2', hp2', ?_, ?_, hdrop, htw2⟩
              · rw [upd_ne (ne_of_none (show (upd H7 D (.lst (vN (addOf rs k sn)))) c = some (.lst (vN seen)) by rw [upd_ne dC]; exact hC8) hp2), upd_ne dC]
                exact hC8
              · rw [upd_same]
                unfold vN
                rw [List.map_append]
        | zero z t =>
          refine iteBT (by show inV (V.str "zero") [V.str "jump", V.str "zero"] = true; decide +kernel) ?_
          refine ⟨_, rfl, _, rfl, a, _, _, _, rfl, rfl, hT6, hat, _, rfl, pr, _, _, _, rfl, rfl, SqT.of hrow6, atI_last [V.str "zero", .int z] (.int (t : Int)), _, rfl, _, _, rfl, rfl, (by show 2 ≤ sizeLine; decide), fun L2 hL2 => ?_⟩
          have u1 := same_upd (o := .lst [V.int (t : Int), .int ((k : Int) + 1)]) hL2
          refine ⟨_, rfl, _, rfl, a, _, _, _, rfl, rfl, sameT u1 hT6, hat, pr, _, _, _, rfl, rfl, SqT.of (u1 _ _ hrow6), atI_nat (j := 0) rfl, rfl, .inr ⟨true, congrArg (fun b => [V.bl b]) (decide_eq_true (by decide +kernel)), _, _, rfl, rfl, _, rfl, L2, _, rfl, SqL.of upd_same, fun L3 hL3 => ?_⟩⟩
          have u2 := u1.trans (same_upd (o := .lst (cutV [V.int (t : Int), .int ((k : Int) + 1)] none (some (1 + if true = true then 1 else 0)))) hL3)
          have hPl : (upd (upd H6 L2 (.lst [V.int (t : Int), .int ((k : Int) + 1)])) L3 (.lst (cutV [V.int (t : Int), .int ((k : Int) + 1)] none (some (1 + if true = true then 1 else 0))))) L3 = some (.lst (vN ((RW.zero z t).lw k))) := by
            rw [upd_same]
            exact congrArg (fun x => some (HO.lst x)) (cut_hi [V.int (t : Int), .int ((k : Int) + 1)] 2)
          have t3 := t2.trans u2
          have hT7 := sameT u2 hT6
          have hrow7 := u2 _ _ hrow6
          generalize upd (upd H6 L2 (.lst [V.int (t : Int), .int ((k : Int) + 1)])) L3 (.lst (cutV [V.int (t : Int), .int ((k : Int) + 1)] none (some (1 + if true = true then 1 else 0)))) = H7 at t3 hPl hT7 hrow7
          refine ⟨_, rfl, _, rfl, a, _, _, _, rfl, rfl, hT7, hat, pr, _, _, _, rfl, rfl, SqT.of hrow7, atI_nat (j := 0) rfl, rfl, _, rfl, iteDF (by decide +kernel) ?_⟩
          have tt := sm4.trans t3
          have hP8 := t3 _ _ hP4
          have hC8 := t3 _ _ hC4
          have R8 := R.same tt
          have hlw := lw_len (RW.zero z t) k
          refine ⟨_, rfl, _, rfl, L3, rfl, ⟨_, SqL.of hPl⟩, fun D hD => ?_⟩
          have nD : H D = none := tt.free hD
          have dP : p ≠ D := ne_of_none hP8 hD
          have dC : c ≠ D := ne_of_none hC8 hD
          have dL : L3 ≠ D := ne_of_none hPl hD
          have same : ∀ o, Same H (upd H7 D o) := fun o => same_updT tt nD
          refine lc_list (K := K) (a := L3) (xs := vN (RW.lw (RW.zero z t) k)) (fun j H' => H' = upd H7 D (.lst (vN (((RW.lw (RW.zero z t) k).take j).filter (keepOf rs sn))))) rfl (fun j H' _ e => by rw [e]; exact SqL.of (by rw [upd_ne dL]; exact hPl)) ?_ ?_
          · rintro j x H' hx e
            subst e
            obtain ⟨y, hy⟩ : ∃ y, (RW.lw (RW.zero z t) k)[j]? = some y := by
              have := (List.getElem?_eq_some_iff.mp hx).1
              rw [vN_len] at this
              exact ⟨_, List.getElem?_eq_getElem this⟩
            have ex : x = V.int (y : Int) := by
              unfold vN at hx
              rw [List.getElem?_map, hy] at hx
              exact (Option.some.inj hx).symm
            subst ex
            have htk : (RW.lw (RW.zero z t) k).take (j + 1) = (RW.lw (RW.zero z t) k).take j ++ [y] := by rw [List.take_add_one, hy]; rfl
            obtain ⟨xs, hT8, hxs8⟩ := (R.same (same (.lst (vN (((RW.lw (RW.zero z t) k).take j).filter (keepOf rs sn)))))).len
            refine ⟨rfl, _, rfl, _, rfl, a, _, rfl, .inr hT8, _, _, rfl, rfl, _, rfl, ?_⟩
            have stay : keepOf rs sn y = false → upd H7 D (.lst (vN (((RW.lw (RW.zero z t) k).take j).filter (keepOf rs sn)))) = upd H7 D (.lst (vN (((RW.lw (RW.zero z t) k).take (j + 1)).filter (keepOf rs sn)))) := fun h => by
              rw [htk, List.filter_append, List.filter_cons, h]
              simp
            by_cases hyn : y < rs.length
            · refine iteDT (by rw [hxs8]; omega) ?_
              refine ⟨_, rfl, _, rfl, p, _, rfl, .inl (SqL.of (by rw [upd_ne dP]; exact hP8)), rfl, by rw [vN_int]; exact flatInts _, _, rfl, ?_⟩
              rw [inN]
              by_cases hys : sn.contains y = true
              · refine iteBF (by rw [hys]; rfl) ?_
                exact stay (by unfold keepOf; rw [hys]; simp)
              · have hys' : sn.contains y = false := by simpa using hys
                refine iteBT (by rw [hys']; rfl) ?_
                refine ⟨_, rfl, _, upd_same, ?_, ?_⟩
                · rw [vN_len]
                  have := List.length_filter_le (keepOf rs sn) ((RW.lw (RW.zero z t) k).take j)
                  have := List.length_take_le' j (RW.lw (RW.zero z t) k)
                  exact small1000 (by omega)
                · rw [upd_upd, htk, List.filter_append, List.filter_cons, show keepOf rs sn y = true by unfold keepOf; rw [hys']; simp [hyn]]
                  unfold vN
                  rw [List.map_append]
                  rfl
            · refine iteDF (by rw [hxs8]; omega) ?_
              exact iteF (stay (by unfold keepOf; simp [hyn]))
          · rintro H' e
            rw [vN_len, List.take_length, ← addOf_eq hkr] at e
            subst e
            have hla : (addOf rs k sn).length ≤ 60 := by
              simp only [List.length_append] at hlen2
              omega
            have hls : sn.length ≤ 60 := by
              simp only [List.length_append] at hlen2
              omega
            refine ⟨p, D, _, _, rfl, rfl, by rw [upd_ne dP]; exact hP8, upd_same, ?_, fun p2 hp2 => ?_⟩
            · rw [vN_len, vN_len]
              exact Nat.le_of_lt (small1000 (by omega))
            · have hp2' : H p2 = none := (same _).free hp2
              refine ⟨p2, sn ++ addOf rs k sn, _, _, rfl, same_updT (same _) hp2', hp2', ?_, ?_, hdrop, htw2⟩
              · rw [upd_ne (ne_of_none (show (upd H7 D (.lst (vN (addOf rs k sn)))) c = some (.lst (vN seen)) by rw [upd_ne dC]; exact hC8) hp2), upd_ne dC]
                exact hC8
              · rw [upd_same]
                unfold vN
                rw [List.map_append]
      · rintro σ H4 ⟨p, sn, v3, v4, rfl, sm4, np4, hC4, hP4, hgo, htw⟩
        rw [vN_len, List.drop_length] at hgo
        have hgo' : sn = roundGo rs seen seen := hgo
        subst hgo'
        exact ⟨p, _, _, _, _, rfl, sm4, np4, hP4, RR.next⟩
    · rintro σ H2 ⟨p1, seen, v2, v3, v4, rfl, sm, np, hP, RR⟩
      have hlen := twice_len RR.tw
      refine ⟨_, rfl, p1, (seen.map fun j : Nat => (j : Int)), rfl, SqL.of (by rw [← vN_int]; exact hP), ?_, fun S c hc hS => ?_⟩
      · rw [List.length_map]
        unfold scanBound
        omega
      · rw [List.length_map] at hc
        have t1 := sm.trans (same_upd (o := SetO w S (fun j => decide (j ∈ seen.map fun j : Nat => (j : Int))) c) hS)
        refine ⟨S, _, c, rfl, upd_same, by omega, fun ns p h1 h2 h3 h4 => ?_⟩
        exact q _ p ns (same_updT t1 (t1.free h4)) (t1.free h4) (RR.done h1 fun z => (h2 z).trans decide_eq_true_iff) upd_same

/-! ### rows compared -/
def rowD : RW → PyData
  | .tick => .tuple [.str "tick"]
  | .back => .tuple [.str "back", .int (-1)]
  | .num => .tuple [.str "num", .int 0, .int 5]
  | .jump t => .tuple [.str "jump", .int (t : Int)]
  | .zero a t => .tuple [.str "zero", .int a, .int (t : Int)]
theorem rowD_lay (r : RW) : (rowD r).canLay0 = true := by
  have h1 : PyData.strOk "tick" = true := by decide +kernel
  have h2 : PyData.strOk "back" = true := by decide +kernel
  have h3 : PyData.strOk "num" = true := by decide +kernel
  have h4 : PyData.strOk "jump" = true := by decide +kernel
  have h5 : PyData.strOk "zero" = true := by decide +kernel
  cases r <;> simp [rowD, PyData.canLay0, PyData.canLayAll0, h1, h2, h3, h4, h5]
theorem rowD_deep (r : RW) : (rowD r).depth ≤ 2 := by
  cases r <;> simp [rowD, PyData.depth, PyData.depthAll]
theorem rowsD_lay : ∀ rs : List RW, PyData.canLayAll0 (rs.map rowD) = true
  | [] => by simp [PyData.canLayAll0]
  | r :: rs => by simp [PyData.canLayAll0, rowD_lay r, rowsD_lay rs]
theorem rowsD_deep : ∀ rs : List RW, PyData.depthAll (rs.map rowD) ≤ 2
  | [] => by simp [PyData.depthAll]
  | r :: rs => by
    have h1 := rowsD_deep rs
    have h2 := rowD_deep r
    simp only [List.map_cons, PyData.depthAll]
    omega
theorem rowsD_shaped (rs : List RW) : SeqAt.shaped (.tuple (rs.map rowD)) = true := shapedOf (by simp only [PyData.canLay0]; exact rowsD_lay rs) (by
  have := rowsD_deep rs
  simp only [PyData.depth]
  omega)
theorem row_dp {H : Hp} {p : Addr} {r : RW} (h : H p = some (.tup (rowV r))) : Dp K H (.ref p) (rowD r) := by
  cases r with
  | tick => exact .tup (SqT.of h) (.cons (.str _) .nil)
  | back => exact .tup (SqT.of h) (.cons (.str _) (.cons (.int _) .nil))
  | num => exact .tup (SqT.of h) (.cons (.str _) (.cons (.int _) (.cons (.int _) .nil)))
  | jump t => exact .tup (SqT.of h) (.cons (.str _) (.cons (.int _) .nil))
  | zero a t => exact .tup (SqT.of h) (.cons (.str _) (.cons (.int _) (.cons (.int _) .nil)))
theorem rows_dp {H : Hp} : ∀ {ps : List Addr} {rs : List RW}, ps.length = rs.length → (∀ (i : Nat) (r : RW), rs[i]? = some r → ∃ p, ps[i]? = some p ∧ H p = some (.tup (rowV r))) → DpAll K H (ps.map V.ref) (rs.map rowD)
  | [], [], _, _ => .nil
  | p :: ps, r :: rs, hl, h => by
    refine .cons ?_ (rows_dp (ps := ps) (rs := rs) (by simpa using hl) fun i r' hr => by
      obtain ⟨q, q1, q2⟩ := h (i + 1) r' (by simpa using hr)
      exact ⟨q, by simpa using q1, q2⟩)
    obtain ⟨q, q1, q2⟩ := h 0 r rfl
    have e : p = q := Option.some.inj q1
    subst e
    exact row_dp q2
  | [], _ :: _, hl, _ => by simp at hl
  | _ :: _, [], hl, _ => by simp at hl
theorem RowsAt.dp {H : Hp} {a : Addr} {rs : List RW} (R : RowsAt K H a rs) : Dp K H (.ref a) (.tuple (rs.map rowD)) := by
  obtain ⟨ps, h1, h2, h3⟩ := R.ex
  exact .tup h1 (rows_dp h2 h3)
def spLaw (K : PySem.W.Frag) : Sp := fun vs H Q _ => ∃ (a : Addr) (ns : List Int), vs = [.ref a] ∧ SqL K H a (ns.map V.int) ∧ ns.length ≤ 63 ∧ ∀ H', Q (.bl true) H'
theorem ok_law (T : Tx K mg) : FnOk P w K mg base CX0 3 T.f_law T.d_law ["_law_script"] (spLaw K) := by
  refine T.F_law.ok sc_law (fun vs H Q E h => ?_) (fun cdv A outer s H vs Q E hr h => ?_)
  · obtain ⟨a, ns, rfl, _⟩ := h
    rfl
  · obtain ⟨a, ns, rfl, hS, _, q⟩ := h
    have h30 : (rowsF ns).length ≤ 30 := by
      rw [rowsF_len]
      exact manyF_le ns
    refine ⟨_, (pss_cons (ps_set (i := 1) sc_law.nd rfl (Or.inl rfl) (pe_call (ok_l_rows T) (hr.mono (by decide)) rfl T.m_l_rows T.F_l_rows.kp T.B_l_rows .nil pass0 (pa_cons (pv 0) pa_nil)))
      (pss_cons (ps_set (i := 2) sc_law.nd rfl (Or.inl rfl) (pe_call (ok_l_reached T) (hr.mono (by decide)) rfl T.m_l_reached T.F_l_reached.kp T.B_l_reached .nil pass0 (pa_cons (pv 1) pa_nil)))
      (pss_cons (ps_set (i := 3) sc_law.nd rfl (Or.inl rfl) (pe_call (ok_came_to T) (hr.mono (by decide)) rfl T.m_came_to T.F_came_to.kp T.B_came_to .nil pass0 (pa_cons (pv 1) pa_nil)))
      (pss_cons (ps_if (PW.pt (pw_or (pt_not (pt_val (pe_callB call_isi (by rfl) T.n_isinstance (by decide +kernel) (pa_cons (pv 3) (pa_cons (pe_bltn (v := .ty "list") (by rfl) T.n_list PyProof.Rows.boot_list rfl) pa_nil))))) (pw_or1 (pt_cmpR (neDK (K := K) rfl hr.units) (pv 3) (pv 2) (nomark _)))))
        (pss_one (ps_ret pe_bl))
        pss_nil)
      (pss_cons (ps_expr (pe_bm PySem.F.plainAttrs_list PySem.F.slot_list_append PySem.F.type_list_append mt_append (pv 3) (pa_cons pe_int pa_nil)))
      (pss_one (ps_ret (pe_and (pe_cmpR (eqDK (K := K) rfl hr.units) (pe_call (ok_came_to T) (hr.mono (by decide)) rfl T.m_came_to T.F_came_to.kp T.B_came_to .nil pass0 (pa_cons (pv 1) pa_nil)) (pv 2) (nomark _)) (pe_one (pe_cmpR (eqDK (K := K) rfl hr.units) (pv 1) (pe_call (ok_l_rows T) (hr.mono (by decide)) rfl T.m_l_rows T.F_l_rows.kp T.B_l_rows .nil pass0 (pa_cons (pv 0) pa_nil)) (nomark _))))))))))), ?_⟩
    refine ⟨_, rfl, a, ns, rfl, hS, fun H1 r s1 nr R => ?_⟩
    refine ⟨_, rfl, r, _, rfl, R, h30, fun H2 d ds s2 nd D1 hd => ?_⟩
    refine ⟨_, rfl, r, _, rfl, R.same s2, h30, fun H3 f fs s3 nf D2 hf => ?_⟩
    have e := D1.uniq D2
    subst e
    have hd3 := s3 _ _ hd
    refine ⟨_, rfl, _, _, _, _, true, rfl, ClsV.ty "list", .base (.lst hf), kit_ty (by decide +kernel), _, rfl, iteF ?_⟩
    refine ⟨_, rfl, _, rfl, _, _, dpIntL (SqL.of hf), dpIntL (SqL.of hd3), shInts _, shInts _, _, rfl, iteBF ?_ ?_⟩
    · rw [eqvInts]
      simp
    -- _law_found.append(99)
    refine ⟨_, rfl, .inl ⟨rfl, _, SqL.of hf⟩, f, _, _, rfl, rfl, hf, ?_, ?_⟩
    · have := D1.len
      rw [List.length_map]
      exact small1000 (by omega)
    have s4 : Same H2 (upd H3 f (.lst (ds.map V.int ++ [V.int 99]))) := same_updT s3 nf
    refine ⟨_, rfl, r, _, rfl, (R.same s2).same s4, h30, fun H5 g gs s5 ng D3 hg => ?_⟩
    have e := D1.uniq D3
    subst e
    refine ⟨_, rfl, _, _, dpIntL (SqL.of hg), dpIntL (SqL.of (s5 _ _ (s4 _ _ hd))), shInts _, shInts _, _, rfl, iteBT ?_ ?_⟩
    · rw [eqvInts]
      simp
    have s6 := s2.trans (s4.trans s5)
    refine ⟨_, rfl, _, rfl, a, ns, rfl, (s1.trans s6).seq hS, fun H6 r2 s7 nr2 R2 => ?_⟩
    refine ⟨_, _, (R.same (s6.trans s7)).dp, R2.dp, rowsD_shaped _, rowsD_shaped _, ?_⟩
    rw [PyData.eqv, SeqAt.eqvAll_refl _ (rowsD_lay _)]
    exact q _
end
theorem all_mk {l : PySem.W.OpenLaw} {w : World} {K : PySem.W.Frag} {h : Heap} {mg : Str → Option Value} {fa f_may_come f_came_to f_l_cell f_l_mixed f_l_rows f_l_reached f_law : Addr} (X : K.In h) (G : h.Ns mainGlobals mg) (hfa : mg "law" = some (.ref fa))
    {od_may_come an_may_come od_came_to an_came_to od_l_cell an_l_cell od_l_mixed an_l_mixed od_l_rows an_l_rows od_l_reached an_l_reached od_law an_law : Option Addr} {sl_may_come sl_came_to sl_l_cell sl_l_mixed sl_l_rows sl_l_reached sl_law : Array (Option Value)} {oc_may_come kV_may_come dc_may_come pm_may_come cd_may_come ct_may_come oc_came_to kV_came_to dc_came_to pm_came_to cd_came_to ct_came_to oc_l_cell kV_l_cell dc_l_cell pm_l_cell cd_l_cell ct_l_cell oc_l_mixed kV_l_mixed dc_l_mixed pm_l_mixed cd_l_mixed ct_l_mixed oc_l_rows kV_l_rows dc_l_rows pm_l_rows cd_l_rows ct_l_rows oc_l_reached kV_l_reached dc_l_reached pm_l_reached cd_l_reached ct_l_reached oc_law kV_law dc_law pm_law cd_law ct_law : Value}
    (zn_len : PySem.W.nsIn K mainGlobals "len" = some none)
    (zn_sorted : PySem.W.nsIn K mainGlobals "sorted" = some none)
    (zn_range : PySem.W.nsIn K mainGlobals "range" = some none)
    (zn_tuple : PySem.W.nsIn K mainGlobals "tuple" = some none)
    (zn_list : PySem.W.nsIn K mainGlobals "list" = some none)
    (zn_int : PySem.W.nsIn K mainGlobals "int" = some none)
    (zn_set : PySem.W.nsIn K mainGlobals "set" = some none)
    (zn_isinstance : PySem.W.nsIn K mainGlobals "isinstance" = some none)
    (za_may_come : PySem.W.nsIn K mainGlobals "may_come" = some (some (.ref f_may_come)))
    (zl_may_come : K.lookup f_may_come = some ⟨oc_may_come, od_may_come, .func (PySem.W.fnOf "may_come" "may_come" (defArgs s_may_come) (defBody s_may_come) (defScope s_may_come) .none kV_may_come dc_may_come pm_may_come an_may_come cd_may_come ct_may_come), sl_may_come⟩)
    (zd_may_come : PySem.W.codeIn K cd_may_come "may_come" = true)
    (zk_may_come : PySem.W.keepIn K (.ref f_may_come) = true)
    (za_came_to : PySem.W.nsIn K mainGlobals "came_to" = some (some (.ref f_came_to)))
    (zl_came_to : K.lookup f_came_to = some ⟨oc_came_to, od_came_to, .func (PySem.W.fnOf "came_to" "came_to" (defArgs s_came_to) (defBody s_came_to) (defScope s_came_to) .none kV_came_to dc_came_to pm_came_to an_came_to cd_came_to ct_came_to), sl_came_to⟩)
    (zd_came_to : PySem.W.codeIn K cd_came_to "came_to" = true)
    (zk_came_to : PySem.W.keepIn K (.ref f_came_to) = true)
    (za_l_cell : PySem.W.nsIn K mainGlobals "_law_cell" = some (some (.ref f_l_cell)))
    (zl_l_cell : K.lookup f_l_cell = some ⟨oc_l_cell, od_l_cell, .func (PySem.W.fnOf "_law_cell" "_law_cell" (defArgs s_l_cell) (defBody s_l_cell) (defScope s_l_cell) .none kV_l_cell dc_l_cell pm_l_cell an_l_cell cd_l_cell ct_l_cell), sl_l_cell⟩)
    (zd_l_cell : PySem.W.codeIn K cd_l_cell "_law_cell" = true)
    (zk_l_cell : PySem.W.keepIn K (.ref f_l_cell) = true)
    (za_l_mixed : PySem.W.nsIn K mainGlobals "_law_mixed" = some (some (.ref f_l_mixed)))
    (zl_l_mixed : K.lookup f_l_mixed = some ⟨oc_l_mixed, od_l_mixed, .func (PySem.W.fnOf "_law_mixed" "_law_mixed" (defArgs s_l_mixed) (defBody s_l_mixed) (defScope s_l_mixed) .none kV_l_mixed dc_l_mixed pm_l_mixed an_l_mixed cd_l_mixed ct_l_mixed), sl_l_mixed⟩)
    (zd_l_mixed : PySem.W.codeIn K cd_l_mixed "_law_mixed" = true)
    (zk_l_mixed : PySem.W.keepIn K (.ref f_l_mixed) = true)
    (za_l_rows : PySem.W.nsIn K mainGlobals "_law_rows" = some (some (.ref f_l_rows)))
    (zl_l_rows : K.lookup f_l_rows = some ⟨oc_l_rows, od_l_rows, .func (PySem.W.fnOf "_law_rows" "_law_rows" (defArgs s_l_rows) (defBody s_l_rows) (defScope s_l_rows) .none kV_l_rows dc_l_rows pm_l_rows an_l_rows cd_l_rows ct_l_rows), sl_l_rows⟩)
    (zd_l_rows : PySem.W.codeIn K cd_l_rows "_law_rows" = true)
    (zk_l_rows : PySem.W.keepIn K (.ref f_l_rows) = true)
    (za_l_reached : PySem.W.nsIn K mainGlobals "_law_reached" = some (some (.ref f_l_reached)))
    (zl_l_reached : K.lookup f_l_reached = some ⟨oc_l_reached, od_l_reached, .func (PySem.W.fnOf "_law_reached" "_law_reached" (defArgs s_l_reached) (defBody s_l_reached) (defScope s_l_reached) .none kV_l_reached dc_l_reached pm_l_reached an_l_reached cd_l_reached ct_l_reached), sl_l_reached⟩)
    (zd_l_reached : PySem.W.codeIn K cd_l_reached "_law_reached" = true)
    (zk_l_reached : PySem.W.keepIn K (.ref f_l_reached) = true)
    (za_law : PySem.W.nsIn K mainGlobals "law" = some (some (.ref f_law)))
    (zl_law : K.lookup f_law = some ⟨oc_law, od_law, .func (PySem.W.fnOf "law" "law" (defArgs s_law) (defBody s_law) (defScope s_law) .none kV_law dc_law pm_law an_law cd_law ct_law), sl_law⟩)
    (zd_law : PySem.W.codeIn K cd_law "law" = true)
    (zk_law : PySem.W.keepIn K (.ref f_law) = true)
    : ∃ fd : FuncData, (∀ (s : Shared) (v : Value), BindsTo s fd ⟨[v], []⟩ [("_law_script", v)]) ∧ ∀ base : Heap, K.In base → base.Ns mainGlobals mg → FnOk l.prog w K mg base CX0 3 fa fd ["_law_script"] (spLaw K) := by
  have e := hfa.symm.trans (PySem.W.mg_of X G za_law)
  cases e
  have F_may_come := fun_mk (st := s_may_come) zl_may_come zd_may_come zk_may_come
  have B_may_come := F_may_come.binds (ps := ["rows", "at"]) fun _ _ _ _ _ _ us hl => match us, hl with | [_, _], _ => rfl
  have F_came_to := fun_mk (st := s_came_to) zl_came_to zd_came_to zk_came_to
  have B_came_to := F_came_to.binds (ps := ["rows"]) fun _ _ _ _ _ _ us hl => match us, hl with | [_], _ => rfl
  have F_l_cell := fun_mk (st := s_l_cell) zl_l_cell zd_l_cell zk_l_cell
  have B_l_cell := F_l_cell.binds (ps := ["_law_script", "_law_k"]) fun _ _ _ _ _ _ us hl => match us, hl with | [_, _], _ => rfl
  have F_l_mixed := fun_mk (st := s_l_mixed) zl_l_mixed zd_l_mixed zk_l_mixed
  have B_l_mixed := F_l_mixed.binds (ps := ["_law_cell_here", "_law_k"]) fun _ _ _ _ _ _ us hl => match us, hl with | [_, _], _ => rfl
  have F_l_rows := fun_mk (st := s_l_rows) zl_l_rows zd_l_rows zk_l_rows
  have B_l_rows := F_l_rows.binds (ps := ["_law_script"]) fun _ _ _ _ _ _ us hl => match us, hl with | [_], _ => rfl
  have F_l_reached := fun_mk (st := s_l_reached) zl_l_reached zd_l_reached zk_l_reached
  have B_l_reached := F_l_reached.binds (ps := ["_law_rows_here"]) fun _ _ _ _ _ _ us hl => match us, hl with | [_], _ => rfl
  have F_law := fun_mk (st := s_law) zl_law zd_law zk_law
  have B_law := F_law.binds (ps := ["_law_script"]) fun _ _ _ _ _ _ us hl => match us, hl with | [_], _ => rfl
  let T : Tx K mg := {
    n_len := PySem.W.mg_none_of X G zn_len
    n_sorted := PySem.W.mg_none_of X G zn_sorted
    n_range := PySem.W.mg_none_of X G zn_range
    n_tuple := PySem.W.mg_none_of X G zn_tuple
    n_list := PySem.W.mg_none_of X G zn_list
    n_int := PySem.W.mg_none_of X G zn_int
    n_set := PySem.W.mg_none_of X G zn_set
    n_isinstance := PySem.W.mg_none_of X G zn_isinstance
    f_may_come := f_may_come
    d_may_come := _
    F_may_come := F_may_come
    B_may_come := B_may_come
    m_may_come := PySem.W.mg_of X G za_may_come
    f_came_to := f_came_to
    d_came_to := _
    F_came_to := F_came_to
    B_came_to := B_came_to
    m_came_to := PySem.W.mg_of X G za_came_to
    f_l_cell := f_l_cell
    d_l_cell := _
    F_l_cell := F_l_cell
    B_l_cell := B_l_cell
    m_l_cell := PySem.W.mg_of X G za_l_cell
    f_l_mixed := f_l_mixed
    d_l_mixed := _
    F_l_mixed := F_l_mixed
    B_l_mixed := B_l_mixed
    m_l_mixed := PySem.W.mg_of X G za_l_mixed
    f_l_rows := f_l_rows
    d_l_rows := _
    F_l_rows := F_l_rows
    B_l_rows := B_l_rows
    m_l_rows := PySem.W.mg_of X G za_l_rows
    f_l_reached := f_l_reached
    d_l_reached := _
    F_l_reached := F_l_reached
    B_l_reached := B_l_reached
    m_l_reached := PySem.W.mg_of X G za_l_reached
    f_law := fa
    d_law := _
    F_law := F_law
    B_law := B_law
    m_law := PySem.W.mg_of X G za_law }
  exact ⟨PySem.W.fnOf "law" "law" (defArgs s_law) (defBody s_law) (defScope s_law) .none kV_law dc_law pm_law an_law cd_law ct_law, fun s v => .of_eq rfl, fun base _ _ => ok_law T⟩
theorem walk {l : PySem.W.OpenLaw} {q : Program} {loose : List Str} {XP : (Str → Option Value) → Heap → Prop} {YP : World → Heap → Prop} {d : DefRec} {K : Params → PySem.W.Frag} (hn : l.most = some 63) (hdf : d.params.defaults = [])
    (hY : ∀ (w : World) (h : Heap), YP w h → (K w.params).In h)
    (F : ∀ (w : World) (mg : Str → Option Value) (fa : Addr) (h : Heap), (K w.params).In h → h.Ns mainGlobals mg → mg d.name = some (.ref fa) →
      ∃ fd : FuncData, (∀ (s : Shared) (u : Value), BindsTo s fd ⟨[u], []⟩ [("_law_script", u)]) ∧ ∀ base : Heap, (K w.params).In base → base.Ns mainGlobals mg → FnOk l.prog w (K w.params) mg base CX0 3 fa fd ["_law_script"] (spLaw (K w.params))) :
    PySem.W.WalkO q loose XP YP l.row.toRowW d [] (fun f vs => PySem.call f vs) :=
  L2.walk_of (n := 63) (k := 3) (x := "_law_script") (CX := fun _ => CX0) (sp := fun w => spLaw (K w.params)) hn (by decide) hdf ⟨rfl, by decide, by decide⟩ hY F (fun _ _ a ns hl _ hS => ⟨a, ns, rfl, hS, hl, fun _ => rfl⟩) fun _ _ _ _ _ z => z
end My
open PySem PySem.W PyProof.Rows
set_option maxRecDepth 100000 in
set_option maxHeartbeats 0 in
theorem PySem.Challenge.cw_holders_k84_came_to_holds : PySem.Challenge.rw_holders_k84_came_to.Holds := by
  w_on; o_law; k_head; (case hw => w_witness2)
  k_fill
  refine My.walk (l := PySem.Challenge.rw_holders_k84_came_to) rfl rfl (fun w h Y => PySem.W.kIn_of Y) ?F
  case F =>
    intro w mg fa h KX G hmg
    refine' My.all_mk KX G hmg ?zn_len ?zn_sorted ?zn_range ?zn_tuple ?zn_list ?zn_int ?zn_set ?zn_isinstance ?za_may_come ?zl_may_come ?zd_may_come ?zk_may_come ?za_came_to ?zl_came_to ?zd_came_to ?zk_came_to ?za_l_cell ?zl_l_cell ?zd_l_cell ?zk_l_cell ?za_l_mixed ?zl_l_mixed ?zd_l_mixed ?zk_l_mixed ?za_l_rows ?zl_l_rows ?zd_l_rows ?zk_l_rows ?za_l_reached ?zl_l_reached ?zd_l_reached ?zk_l_reached ?za_law ?zl_law ?zd_law ?zk_law
    (case zn_len => k_is)
    (case zn_sorted => k_is)
    (case zn_range => k_is)
    (case zn_tuple => k_is)
    (case zn_list => k_is)
    (case zn_int => k_is)
    (case zn_set => k_is)
    (case zn_isinstance => k_is)
    (case za_may_come => k_is)
    (case zl_may_come => k_is)
    (case zd_may_come => k_is)
    (case zk_may_come => k_is)
    (case za_came_to => k_is)
    (case zl_came_to => k_is)
    (case zd_came_to => k_is)
    (case zk_came_to => k_is)
    (case za_l_cell => k_is)
    (case zl_l_cell => k_is)
    (case zd_l_cell => k_is)
    (case zk_l_cell => k_is)
    (case za_l_mixed => k_is)
    (case zl_l_mixed => k_is)
    (case zd_l_mixed => k_is)
    (case zk_l_mixed => k_is)
    (case za_l_rows => k_is)
    (case zl_l_rows => k_is)
    (case zd_l_rows => k_is)
    (case zk_l_rows => k_is)
    (case za_l_reached => k_is)
    (case zl_l_reached => k_is)
    (case zd_l_reached => k_is)
    (case zk_l_reached => k_is)
    (case za_law => k_is)
    (case zl_law => k_is)
    (case zd_law => k_is)
    (case zk_law => k_is)

