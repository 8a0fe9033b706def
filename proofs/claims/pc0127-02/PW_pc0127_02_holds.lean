import PyProof.Rows.All
import Wide.All
import OpenK.AllK
import Wide.FinOn
import Lean
import PySem.Challenge.RW_pc0127_02
open PySem PySem.W PyProof.Rows
set_option compiler.extract_closed false
set_option Elab.async false
set_option maxRecDepth 100000
set_option maxHeartbeats 8000000
namespace Mine
section

abbrev By := Array UInt8
abbrev Led := List (Addr × Obj)

/-! ## the order of bytes -/
theorem ord_self : ∀ a : List UInt8, Builtin.Bytes.order a a = .eq
  | [] => rfl
  | x :: a => by
    have h : ¬ x < x := UInt8.lt_irrefl x
    simp [Builtin.Bytes.order, h, ord_self a]
theorem ord_eq {a b : List UInt8} (h : Builtin.Bytes.order a b = .eq) : a = b := by
  have h2 := order_eq a b
  rw [h] at h2
  exact eq_of_beq h2.symm
theorem ord_swap : ∀ a b : List UInt8, Builtin.Bytes.order b a = (Builtin.Bytes.order a b).swap
  | [], [] | [], _ :: _ | _ :: _, [] => rfl
  | x :: a, y :: b => by
    simp only [Builtin.Bytes.order]
    by_cases h1 : x < y
    · have h2 : ¬ y < x := fun q => absurd (UInt8.lt_trans h1 q) (UInt8.lt_irrefl _)
      simp [h1, h2]
    · by_cases h2 : y < x
      · simp [h1, h2]
      · simp [h1, h2, ord_swap a b]
theorem ord_trans : ∀ {a b c : List UInt8}, Builtin.Bytes.order a b = .lt → Builtin.Bytes.order b c = .lt → Builtin.Bytes.order a c = .lt
  | [], [], _, h, _ => by simp [Builtin.Bytes.order] at h
  | [], _ :: _, [], _, h => by simp [Builtin.Bytes.order] at h
  | [], _ :: _, _ :: _, _, _ => rfl
  | _ :: _, [], _, h, _ => by simp [Builtin.Bytes.order] at h
  | _ :: _, _ :: _, [], _, h => by simp [Builtin.Bytes.order] at h
  | x :: a, y :: b, z :: c, h, k => by
    simp only [Builtin.Bytes.order] at h k ⊢
    by_cases h1 : x < y
    · by_cases k1 : y < z
      · simp [UInt8.lt_trans h1 k1]
      · by_cases k2 : z < y
        · simp [k1, k2] at k
        · have e : y = z := UInt8.le_antisymm (UInt8.not_lt.mp k2) (UInt8.not_lt.mp k1)
          subst e; simp [h1]
    · by_cases h2 : y < x
      · simp [h1, h2] at h
      · have e : x = y := UInt8.le_antisymm (UInt8.not_lt.mp h2) (UInt8.not_lt.mp h1)
        subst e
        by_cases k1 : x < z
        · simp [k1]
        · by_cases k2 : z < x
          · simp [k1, k2] at k
          · simp only [UInt8.lt_irrefl, if_false, gt_iff_lt] at h
            simp only [k1, k2, if_false, gt_iff_lt] at k ⊢
            exact ord_trans h k
/-- a < b on bytes -/
def blt (a b : By) : Bool := Builtin.Bytes.order a.toList b.toList == .lt
theorem blt_irrefl (a : By) : blt a a = false := by simp [blt, ord_self]
theorem blt_trans {a b c : By} (h : blt a b = true) (k : blt b c = true) : blt a c = true := by
  simp only [blt, beq_iff_eq] at h k ⊢
  exact ord_trans h k
theorem blt_asymm {a b : By} (h : blt a b = true) : blt b a = false := by
  simp only [blt, beq_iff_eq] at h ⊢
  rw [ord_swap, h]; rfl
theorem blt_total {a b : By} (h : blt a b = false) (k : blt b a = false) : a = b := by
  simp only [blt] at h k
  rw [ord_swap a.toList b.toList] at k
  refine Array.toList_inj.mp (ord_eq ?_)
  cases e : Builtin.Bytes.order a.toList b.toList with
  | eq => rfl
  | lt => rw [e] at h; exact absurd h (by decide)
  | gt => rw [e] at k; exact absurd k (by decide)
theorem hold_gt (a b : By) : Builtin.Bytes.holds "__gt__" (Builtin.Bytes.order a.toList b.toList) = blt b a := by
  show (Builtin.Bytes.order a.toList b.toList == .gt) = (Builtin.Bytes.order b.toList a.toList == .lt)
  rw [ord_swap a.toList b.toList]
  cases Builtin.Bytes.order a.toList b.toList <;> rfl
theorem hold_le (a b : By) : Builtin.Bytes.holds "__le__" (Builtin.Bytes.order a.toList b.toList) = !blt b a := by
  show (Builtin.Bytes.order a.toList b.toList != .gt) = !(Builtin.Bytes.order b.toList a.toList == .lt)
  rw [ord_swap a.toList b.toList]
  cases Builtin.Bytes.order a.toList b.toList <;> rfl
theorem by_beq (a b : By) : (a.toList == b.toList) = decide (a = b) := by
  by_cases h : a = b
  · subst h; simp
  · have : a.toList ≠ b.toList := fun e => h (Array.toList_inj.mp e)
    simp [h]

/-! ## the comparisons of bytes -/
section
theorem slot_b_lt : Slot "bytes" (cmpInfo .Lt).2.1 "bytes.__lt__" :=
  .of (owner := "bytes") (n := "__lt__") (by rw [typeLookup_type, builtinLookup_eq_fast]; kernel_rfl) (by decide +kernel) (by decide +kernel) (by decide +kernel)
    (by first | exact .inl (by decide +kernel) | exact .inr (by decide +kernel)) (by rw [isSubtype_type]; kernel_rfl)
theorem entry_b_lt : entryFor table "bytes.__lt__" = some Builtin.«bytes.__lt__» := entryFor_of_tree (by kernel_rfl)
theorem args_b_lt (a b : Value) : argsOk "bytes.__lt__" ⟨[a, b], []⟩ := by
  unfold argsOk; rw [signature?_of (id := "bytes.__lt__") (n := ['_', '_', 't', 'l', '_', '_']) (o := ['s', 'e', 't', 'y', 'b']) (by kernel_rfl) FB.owner_bytes]; kernel_rfl
theorem slot_b_le : Slot "bytes" (cmpInfo .LtE).2.1 "bytes.__le__" :=
  .of (owner := "bytes") (n := "__le__") (by rw [typeLookup_type, builtinLookup_eq_fast]; kernel_rfl) (by decide +kernel) (by decide +kernel) (by decide +kernel)
    (by first | exact .inl (by decide +kernel) | exact .inr (by decide +kernel)) (by rw [isSubtype_type]; kernel_rfl)
theorem entry_b_le : entryFor table "bytes.__le__" = some Builtin.«bytes.__le__» := entryFor_of_tree (by kernel_rfl)
theorem args_b_le (a b : Value) : argsOk "bytes.__le__" ⟨[a, b], []⟩ := by
  unfold argsOk; rw [signature?_of (id := "bytes.__le__") (n := ['_', '_', 'e', 'l', '_', '_']) (o := ['s', 'e', 't', 'y', 'b']) (by kernel_rfl) FB.owner_bytes]; kernel_rfl
theorem slot_b_gt : Slot "bytes" (cmpInfo .Gt).2.1 "bytes.__gt__" :=
  .of (owner := "bytes") (n := "__gt__") (by rw [typeLookup_type, builtinLookup_eq_fast]; kernel_rfl) (by decide +kernel) (by decide +kernel) (by decide +kernel)
    (by first | exact .inl (by decide +kernel) | exact .inr (by decide +kernel)) (by rw [isSubtype_type]; kernel_rfl)
theorem entry_b_gt : entryFor table "bytes.__gt__" = some Builtin.«bytes.__gt__» := entryFor_of_tree (by kernel_rfl)
theorem args_b_gt (a b : Value) : argsOk "bytes.__gt__" ⟨[a, b], []⟩ := by
  unfold argsOk; rw [signature?_of (id := "bytes.__gt__") (n := ['_', '_', 't', 'g', '_', '_']) (o := ['s', 'e', 't', 'y', 'b']) (by kernel_rfl) FB.owner_bytes]; kernel_rfl
theorem gives_b_le (b c : By) (t u : Tok) : Gives (Builtin.«bytes.__le__» ⟨[.bytes b t, .bytes c u], []⟩) (.val (.bool (!blt c b))) := by
  refine .of_wp fun M A E s Q hq => ?_
  show wpAny M A (isInstance (.bytes c u) (.type "bytes") >>= fun r => _) _ E s
  refine wpAny_bind (wpAny_isInstance (typeIs_bytes s c u) F.sub_bytes_bytes ?_)
  exact wpAny_pure ⟨_, rfl, by rw [← hold_le] at hq; exact hq⟩
theorem gives_b_gt (b c : By) (t u : Tok) : Gives (Builtin.«bytes.__gt__» ⟨[.bytes b t, .bytes c u], []⟩) (.val (.bool (blt c b))) := by
  refine .of_wp fun M A E s Q hq => ?_
  show wpAny M A (isInstance (.bytes c u) (.type "bytes") >>= fun r => _) _ E s
  refine wpAny_bind (wpAny_isInstance (typeIs_bytes s c u) F.sub_bytes_bytes ?_)
  exact wpAny_pure ⟨_, rfl, by rw [← hold_gt] at hq; exact hq⟩
variable {prog : Program} {w : World} {A : Around} {E : Value → Shared → Prop} {s : Shared} {b c : By} {t u : Tok} {Q : Value → Shared → Prop}
theorem le_by (h : Q (.bool (!blt c b)) s) : wpAny (model prog w) A (compareOp .LtE (.bytes b t) (.bytes c u)) Q E s :=
  compareOp_gives (op := .LtE) (typeIs_bytes s b t) (typeIs_bytes s c u) slot_b_le entry_b_le (args_b_le _ _) (gives_b_le b c t u) (fun e => nomatch e) h
theorem gt_by (h : Q (.bool (blt c b)) s) : wpAny (model prog w) A (compareOp .Gt (.bytes b t) (.bytes c u)) Q E s :=
  compareOp_gives (op := .Gt) (typeIs_bytes s b t) (typeIs_bytes s c u) slot_b_gt entry_b_gt (args_b_gt _ _) (gives_b_gt b c t u) (fun e => nomatch e) h
theorem eq_by (h : Q (.bool (decide (b = c))) s) : wpAny (model prog w) A (compareOp .Eq (.bytes b t) (.bytes c u)) Q E s :=
  eq_bytes (by rw [by_beq]; exact h)
/-- one bytes below another, as sort asks it -/
theorem oneLt_by {Q : Bool → Shared → Prop} (h : Q (blt b c) s) : wpAny (model prog w) A (oneLt' true (.bytes b t) (.bytes c u)) Q E s := by
  rw [oneLt'_eq]
  simp only [if_true]
  refine wpAny_bind (wpAny_cRoomFor_byValue rfl ?_)
  refine wpAny_bind (wpAny_callSpecialIfBound?_slot (typeIs_bytes s b t) slot_b_lt (wpAny_call_entry slot_b_lt (typeIs_bytes s b t) entry_b_lt ?_ (args_b_lt _ _)))
  show wpAny _ _ (Builtin.«bytes.__lt__» ⟨[.bytes b t, .bytes c u], []⟩) _ _ s
  show wpAny _ _ (isInstance (.bytes c u) (.type "bytes") >>= fun r => _) _ _ s
  refine wpAny_bind (wpAny_isInstance (typeIs_bytes s c u) F.sub_bytes_bytes ?_)
  exact wpAny_pure ⟨_, rfl, wpAny_truthy_bool h⟩
end

end
section

/-! ## the sort of fewer than 64 items, its questions answered by a strict order -/
noncomputable def Run {α : Type} (lt : Nat → Nat → Bool) (n : Nat) : KasT α → (α → Prop) → Prop
  | .ret a, Q => Q a
  | .ask i j k, Q => i < n ∧ j < n ∧ i ≠ j ∧ Run lt n (k (lt i j)) Q
theorem Run_mono {α : Type} {lt : Nat → Nat → Bool} {n : Nat} {Q Q' : α → Prop} (hq : ∀ a, Q a → Q' a) : ∀ (t : KasT α), Run lt n t Q → Run lt n t Q'
  | .ret a, h => hq a h
  | .ask _ _ k, h => ⟨h.1, h.2.1, h.2.2.1, Run_mono hq (k _) h.2.2.2⟩
theorem Run_bind {α β : Type} {lt : Nat → Nat → Bool} {n : Nat} {f : α → KasT β} {Q : β → Prop} : ∀ (t : KasT α), Run lt n t (fun a => Run lt n (f a) Q) → Run lt n (t.bind f) Q
  | .ret _, h => h
  | .ask _ _ k, h => ⟨h.1, h.2.1, h.2.2.1, Run_bind (k _) h.2.2.2⟩
theorem Run_wp {α : Type} {lt : Nat → Nat → Bool} {n : Nat} {cmp : Nat → Nat → (Bool → Shared → Prop) → Shared → Prop} {s : Shared} {G : α → Shared → Prop}
    (hc : ∀ i j C, i < n → j < n → i ≠ j → C (lt i j) s → cmp i j C s) : ∀ (t : KasT α), Run lt n t (fun a => G a s) → t.kasWp cmp G s
  | .ret _, h => h
  | .ask i j k, h => hc i j _ h.1 h.2.1 h.2.2.1 (Run_wp hc (k _) h.2.2.2)
structure Ord (n : Nat) (lt : Nat → Nat → Bool) : Prop where
  trans : ∀ a b c, lt a b = true → lt b c = true → lt a c = true
  asymm : ∀ a b, lt a b = true → lt b a = false
  total : ∀ a b, a < n → b < n → a ≠ b → lt a b = true ∨ lt b a = true
structure PA (n : Nat) (p : Array Nat) : Prop where
  perm : p.toList.Perm (List.range n)
theorem PA.size {n : Nat} {p : Array Nat} (h : PA n p) : p.size = n := by
  have := h.perm.length_eq
  simpa using this
theorem PA.getD {n : Nat} {p : Array Nat} (h : PA n p) {i : Nat} (hi : i < n) : p[i]? = some (p.getD i 0) := by
  have := h.size
  simp [Array.getD, this, hi]
theorem PA.lt {n : Nat} {p : Array Nat} (h : PA n p) {i : Nat} (hi : i < n) : p.getD i 0 < n := by
  have h1 := h.getD hi
  have h2 : p.getD i 0 ∈ p.toList := by
    have : p.toList[i]? = some (p.getD i 0) := by simpa using h1
    exact List.mem_of_getElem? this
  exact List.mem_range.mp (h.perm.mem_iff.mp h2)
theorem PA.ne {n : Nat} {p : Array Nat} (h : PA n p) {i j : Nat} (hi : i < n) (hj : j < n) (hij : i ≠ j) : p.getD i 0 ≠ p.getD j 0 := by
  intro e
  have nd : p.toList.Nodup := h.perm.nodup_iff.mpr List.nodup_range
  have h1 : p.toList[i]? = some (p.getD i 0) := by simpa using h.getD hi
  have h2 : p.toList[j]? = some (p.getD j 0) := by simpa using h.getD hj
  have hl : i < p.toList.length := by rw [Array.length_toList, h.size]; exact hi
  exact hij ((List.getElem?_inj hl nd).mp (by rw [h1, h2, e]))
theorem PA.of_perm {n : Nat} {p q : Array Nat} (h : PA n p) (k : q.Perm p) : PA n q := ⟨(Array.perm_iff_toList_perm.mp k).trans h.perm⟩
def Sd (lt : Nat → Nat → Bool) (p : Array Nat) (m : Nat) : Prop := ∀ i j, i < j → j < m → lt (p.getD i 0) (p.getD j 0) = true
def Dd (lt : Nat → Nat → Bool) (p : Array Nat) (m : Nat) : Prop := ∀ i j, i < j → j < m → lt (p.getD j 0) (p.getD i 0) = true
section
variable {n : Nat} {lt : Nat → Nat → Bool} {p : Array Nat}
theorem Sd.snoc (O : Ord n lt) {m : Nat} (hm : 1 ≤ m) (h : Sd lt p m) (k : lt (p.getD (m - 1) 0) (p.getD m 0) = true) : Sd lt p (m + 1) := by
  intro i j hij hj
  by_cases e : j = m
  · subst e
    by_cases e2 : i = j - 1
    · subst e2; exact k
    · exact O.trans _ _ _ (h i (j - 1) (by omega) (by omega)) k
  · exact h i j hij (by omega)
theorem Dd.snoc (O : Ord n lt) {m : Nat} (hm : 1 ≤ m) (h : Dd lt p m) (k : lt (p.getD m 0) (p.getD (m - 1) 0) = true) : Dd lt p (m + 1) := by
  intro i j hij hj
  by_cases e : j = m
  · subst e
    by_cases e2 : i = j - 1
    · subst e2; exact k
    · exact O.trans _ _ _ k (h i (j - 1) (by omega) (by omega))
  · exact h i j hij (by omega)
theorem run_asc (O : Ord n lt) (P : PA n p) : ∀ (f m : Nat), 1 ≤ m → m + f ≤ n → Sd lt p m → Run lt n (kas_asc p f m) (fun r => m ≤ r ∧ r ≤ m + f ∧ Sd lt p r ∧ (r < m + f → lt (p.getD r 0) (p.getD (r - 1) 0) = true))
  | 0, m, _, _, h => ⟨Nat.le_refl _, Nat.le_refl _, h, fun q => absurd q (Nat.lt_irrefl _)⟩
  | f + 1, m, hm, hf, h => by
    refine ⟨P.lt (by omega), P.lt (by omega), P.ne (by omega) (by omega) (by omega), ?_⟩
    cases c : lt (p.getD m 0) (p.getD (m - 1) 0) with
    | true => exact ⟨Nat.le_refl _, by omega, h, fun _ => c⟩
    | false =>
      have t := (O.total _ _ (P.lt (i := m) (by omega)) (P.lt (i := m - 1) (by omega)) (P.ne (by omega) (by omega) (by omega))).resolve_left (by rw [c]; decide)
      refine Run_mono (fun r q => ⟨by omega, by omega, q.2.2.1, fun q2 => q.2.2.2 (by omega)⟩) _ (run_asc O P f (m + 1) (by omega) (by omega) (h.snoc O hm t))
theorem run_desc (O : Ord n lt) (P : PA n p) : ∀ (f m : Nat), 1 ≤ m → m + f ≤ n → Dd lt p m → Run lt n (kas_desc f p m 0) (fun r => r.1 = p ∧ r.2.2 = 0 ∧ m ≤ r.2.1 ∧ r.2.1 ≤ m + f ∧ Dd lt p r.2.1)
  | 0, m, _, _, h => ⟨rfl, rfl, Nat.le_refl _, Nat.le_refl _, h⟩
  | f + 1, m, hm, hf, h => by
    refine ⟨P.lt (by omega), P.lt (by omega), P.ne (by omega) (by omega) (by omega), ?_⟩
    cases c : lt (p.getD m 0) (p.getD (m - 1) 0) with
    | true => exact Run_mono (fun r q => ⟨q.1, q.2.1, by omega, by omega, q.2.2.2.2⟩) _ (run_desc O P f (m + 1) (by omega) (by omega) (h.snoc O hm c))
    | false =>
      have t := (O.total _ _ (P.lt (i := m) (by omega)) (P.lt (i := m - 1) (by omega)) (P.ne (by omega) (by omega) (by omega))).resolve_left (by rw [c]; decide)
      refine ⟨P.lt (by omega), P.lt (by omega), P.ne (by omega) (by omega) (by omega), ?_⟩
      rw [t]
      exact ⟨rfl, rfl, Nat.le_refl _, Nat.le_add_right _ _, h⟩
theorem rev_getD (P : PA n p) {m : Nat} (hm : m ≤ n) {k : Nat} (hk : k < n) : (kas_rev p 0 m).getD k 0 = if k < m then p.getD (m - 1 - k) 0 else p.getD k 0 := by
  have hsz := P.size
  have e := getElem?_mirror_all (xs := p) (i := 0) (j := m) (by omega) k
  have Q : PA n (kas_rev p 0 m) := P.of_perm (mirror_perm _ _ _ _)
  have e2 := Q.getD hk
  show (kas_rev p 0 m).getD k 0 = _
  have e3 : (kas_rev p 0 m)[k]? = if 0 ≤ k ∧ k < m then p[0 + m - 1 - k]? else p[k]? := e
  rw [e2] at e3
  by_cases h : k < m
  · rw [if_pos ⟨Nat.zero_le _, h⟩, show 0 + m - 1 - k = m - 1 - k by omega, P.getD (by omega)] at e3
    rw [if_pos h]; exact Option.some.inj e3
  · rw [if_neg (fun q => h q.2), P.getD hk] at e3
    rw [if_neg h]; exact Option.some.inj e3
theorem run_tail3 (O : Ord n lt) (P : PA n p) {m : Nat} (hm : 1 ≤ m) (hn : m ≤ n) (h : Dd lt p m) : Run lt n (kas_tail3 m n p) (fun r => 1 ≤ r.1 ∧ r.1 ≤ n ∧ PA n r.2 ∧ Sd lt r.2 r.1) := by
  have Q : PA n (kas_rev p 0 m) := P.of_perm (mirror_perm _ _ _ _)
  refine Run_bind _ (Run_mono (fun r q => ?_) _ (run_asc O Q (n - m) m hm (by omega) ?_))
  · exact ⟨by omega, by omega, Q, q.2.2.1⟩
  · intro i j hij hj
    rw [rev_getD P hn (by omega), rev_getD P hn (by omega), if_pos (by omega), if_pos (by omega)]
    exact h _ _ (by omega) (by omega)
theorem run_count (O : Ord n lt) (P : PA n p) (hn : 1 ≤ n) : Run lt n (kas_count n p) (fun r => 1 ≤ r.1 ∧ r.1 ≤ n ∧ PA n r.2 ∧ Sd lt r.2 r.1) := by
  refine Run_bind _ (Run_mono (fun m q => ?_) _ (run_asc O P (n - 1) 1 (Nat.le_refl _) (by omega) (fun i j a b => by omega)))
  obtain ⟨h1, h2, h3, h4⟩ := q
  by_cases e1 : m = n
  · subst e1
    simp only [beq_self_eq_true, if_true]
    exact ⟨h1, Nat.le_refl _, P, h3⟩
  · have e1' : (m == n) = false := by simp [e1]
    simp only [e1', Bool.false_eq_true, if_false]
    by_cases e2 : m > 1
    · rw [if_pos e2]
      refine ⟨P.lt (by omega), P.lt (by omega), P.ne (by omega) (by omega) (by omega), ?_⟩
      rw [h3 0 (m - 1) (by omega) (by omega)]
      exact ⟨h1, by omega, P, h3⟩
    · rw [if_neg e2]
      have em : m = 1 := by omega
      subst em
      have h5 := h4 (by omega)
      refine Run_bind _ (Run_mono (fun r q => ?_) _ (run_desc O P (n - 2) 2 (by omega) (by omega) ?_))
      · obtain ⟨q1, q2, q3, q4, q5⟩ := q
        rw [q2]
        simp only [Nat.lt_irrefl, if_false, gt_iff_lt]
        rw [q1]
        exact run_tail3 O P (by omega) (by omega) q5
      · intro i j hij hj
        have : i = 0 := by omega
        subst this
        have : j = 1 := by omega
        subst this
        exact h5
theorem run_place (O : Ord n lt) (P : PA n p) {k : Nat} (hk : k < n) (hS : Sd lt p k) : ∀ (f l r : Nat), r ≤ k → l ≤ r → r - l ≤ f → (∀ i, i < l → lt (p.getD i 0) (p.getD k 0) = true) → (∀ i, r ≤ i → i < k → lt (p.getD k 0) (p.getD i 0) = true) →
    Run lt n (kas_place p k f l r) (fun l' => l' ≤ k ∧ (∀ i, i < l' → lt (p.getD i 0) (p.getD k 0) = true) ∧ (∀ i, l' ≤ i → i < k → lt (p.getD k 0) (p.getD i 0) = true))
  | 0, l, r, h1, h2, h3, h4, h5 => ⟨by omega, h4, fun i a b => h5 i (by omega) b⟩
  | f + 1, l, r, h1, h2, h3, h4, h5 => by
    unfold kas_place
    by_cases e : l ≥ r
    · rw [if_pos e]
      exact ⟨by omega, h4, fun i a b => h5 i (by omega) b⟩
    · rw [if_neg e]
      have hm : (l + r) / 2 < r := by omega
      have hl : l ≤ (l + r) / 2 := by omega
      refine ⟨P.lt hk, P.lt (by omega), P.ne hk (by omega) (by omega), ?_⟩
      cases c : lt (p.getD k 0) (p.getD ((l + r) / 2) 0) with
      | true =>
        refine run_place O P hk hS f l ((l + r) / 2) (by omega) hl (by omega) h4 fun i a b => ?_
        by_cases e2 : i = (l + r) / 2
        · rw [e2]; exact c
        · exact O.trans _ _ _ c (hS _ _ (by omega) b)
      | false =>
        have t := (O.total _ _ (P.lt (i := k) hk) (P.lt (i := (l + r) / 2) (by omega)) (P.ne hk (by omega) (by omega))).resolve_left (by rw [c]; decide)
        refine run_place O P hk hS f ((l + r) / 2 + 1) r h1 (by omega) (by omega) (fun i a => ?_) h5
        by_cases e2 : i = (l + r) / 2
        · rw [e2]; exact t
        · exact O.trans _ _ _ (hS i ((l + r) / 2) (by omega) (by omega)) t
theorem bubble_getD (P : PA n p) {k l : Nat} (hk : k < n) (hl : l ≤ k) {i : Nat} (hi : i < n) : (bubble p k (k - l)).getD i 0 = if i = l then p.getD k 0 else if l < i ∧ i ≤ k then p.getD (i - 1) 0 else p.getD i 0 := by
  have e := getElem?_bubble (xs := p) (src := k) (by rw [P.size]; exact hk) (k - l) (by omega) i
  have Q : PA n (bubble p k (k - l)) := P.of_perm (bubble_perm _ _ _)
  rw [Q.getD hi, show k - (k - l) = l by omega] at e
  by_cases e1 : i = l
  · rw [if_pos e1, P.getD hk] at e
    rw [if_pos e1]; exact Option.some.inj e
  · rw [if_neg e1] at e
    rw [if_neg e1]
    by_cases e2 : l < i ∧ i ≤ k
    · rw [if_pos e2, P.getD (by omega)] at e
      rw [if_pos e2]; exact Option.some.inj e
    · rw [if_neg e2, P.getD hi] at e
      rw [if_neg e2]; exact Option.some.inj e
theorem run_bin (O : Ord n lt) : ∀ (f : Nat) (p : Array Nat) (k : Nat), PA n p → k + f ≤ n → Sd lt p k → Run lt n (kas_bin f p k) (fun p' => PA n p' ∧ Sd lt p' (k + f))
  | 0, p, k, P, _, h => ⟨P, h⟩
  | f + 1, p, k, P, hf, h => by
    refine Run_bind _ (Run_mono (fun l q => ?_) _ (run_place O P (by omega) h k 0 k (Nat.le_refl _) (Nat.zero_le _) (by omega) (fun i a => by omega) (fun i a b => by omega)))
    obtain ⟨q1, q2, q3⟩ := q
    refine Run_mono (fun r q => ⟨q.1, by rw [show k + (f + 1) = k + 1 + f by omega]; exact q.2⟩) _ (run_bin O f _ (k + 1) (P.of_perm (bubble_perm _ _ _)) (by omega) ?_)
    intro i j hij hj
    rw [bubble_getD P (by omega) q1 (by omega), bubble_getD P (by omega) q1 (by omega)]
    by_cases e1 : i = l
    · rw [if_pos e1, if_neg (by omega), if_pos (by omega)]
      exact q3 _ (by omega) (by omega)
    · rw [if_neg e1]
      by_cases e2 : j = l
      · rw [if_pos e2, if_neg (by omega)]
        exact q2 _ (by omega)
      · rw [if_neg e2]
        repeat' split
        all_goals first | exact h _ _ (by omega) (by omega) | (exfalso; omega)
theorem run_sort (O : Ord n lt) (hn : 1 ≤ n) : Run lt n (kas_sort n) (fun p => PA n p ∧ Sd lt p n) := by
  have P : PA n (List.toArray (List.range n)) := ⟨List.Perm.refl _⟩
  refine Run_bind _ (Run_mono (fun r q => ?_) _ (run_count O P hn))
  obtain ⟨q1, q2, q3, q4⟩ := q
  by_cases e : r.1 < n
  · rw [if_pos e, show max r.1 1 = r.1 by omega]
    refine Run_mono (fun p h => ⟨h.1, by rw [show n = r.1 + (n - r.1) by omega]; exact h.2⟩) _ (run_bin O (n - r.1) r.2 r.1 q3 (by omega) q4)
  · rw [if_neg e]
    have : r.1 = n := by omega
    exact ⟨q3, by rw [← this]; exact q4⟩
end

end
section

abbrev tupOf (xs : Array Value) (n : Nat) : Obj := { cls := .type "tuple", data := .seq xs n }
section
variable {prog : Program} {w : World} {A : Around} {E : Value → Shared → Prop} {s : Shared} {b c : By} {t u : Tok}
theorem eqBool_by {Q : Bool → Shared → Prop} (h : Q (decide (b = c)) s) : wpAny (model prog w) A (eqBool (.bytes b t) (.bytes c u)) Q E s := by
  unfold eqBool
  show wpAny _ _ (if (Value.bytes b t == Value.bytes c u) = true then _ else _) Q E s
  by_cases hab : (Value.bytes b t == Value.bytes c u) = true
  · rw [if_pos hab]
    have e : b = c := by have := eq_of_beq hab; injection this
    subst e
    exact wpAny_bind (wpAny_rule (wpAny_pure (by simpa using h)))
  · rw [if_neg hab]
    refine wpAny_bind (richCompare_gives (op := .Eq) (T := "bytes") rfl rfl FB.slot_bytes_eq FB.entry_bytes_eq (FB.args_bytes_eq_2 _ _) (gives_bytes_eq b c t u) (fun x => nomatch x) (wpAny_truthy_bool ?_))
    rw [by_beq]; exact h
end
/-- the value is a tuple of the ledger: bytes, an int, a third -/
def RowIn (news : Led) (v : Value) (k : By × Int) : Prop := ∃ a x t u n, v = .ref a ∧ (a, tupOf #[.bytes k.1 t, .int k.2 u, x] n) ∈ news
def rowLt (a b : By × Int) : Bool := blt a.1 b.1 || (decide (a.1 = b.1) && decide (a.2 < b.2))
theorem rowLt_trans {a b c : By × Int} (h : rowLt a b = true) (k : rowLt b c = true) : rowLt a c = true := by
  simp only [rowLt, Bool.or_eq_true, Bool.and_eq_true, decide_eq_true_eq] at h k ⊢
  rcases h with h | ⟨h1, h2⟩ <;> rcases k with k | ⟨k1, k2⟩
  · exact .inl (blt_trans h k)
  · exact .inl (k1 ▸ h)
  · exact .inl (h1 ▸ k)
  · exact .inr ⟨h1.trans k1, by omega⟩
theorem rowLt_asymm {a b : By × Int} (h : rowLt a b = true) : rowLt b a = false := by
  cases q : rowLt b a with
  | false => rfl
  | true =>
    have z := rowLt_trans h q
    simp [rowLt, blt_irrefl] at z
theorem rowLt_total {a b : By × Int} (h : a.2 ≠ b.2) : rowLt a b = true ∨ rowLt b a = true := by
  simp only [rowLt, Bool.or_eq_true, Bool.and_eq_true, decide_eq_true_eq]
  cases h1 : blt a.1 b.1 with
  | true => exact .inl (.inl rfl)
  | false =>
    cases h2 : blt b.1 a.1 with
    | true => exact .inr (.inl rfl)
    | false =>
      have e := blt_total h1 h2
      rcases Int.lt_or_gt_of_ne h with q | q
      · exact .inl (.inr ⟨e, q⟩)
      · exact .inr (.inr ⟨e.symm, q⟩)
section
variable {prog : Program} {w : World} {A : Around} {E : Value → Shared → Prop} {s : Shared} {h₀ : Heap} {L : Addr} {m : Str → Option Value} {news : Led} {vs : List Value} {ks : List (By × Int)}
theorem rows_lt {v v' : Value} {k k' : By × Int} {C : Bool → Shared → Prop} (N : News h₀ L s.heap news) (h1 : RowIn news v k) (h2 : RowIn news v' k') (hne : k.2 ≠ k'.2) (h : C (rowLt k k') s) :
    wpAny (model prog w) A (keyLt' (tuples' true) v v') C E s := by
  obtain ⟨a, x, t, u, n, rfl, hm⟩ := h1
  obtain ⟨a', x', t', u', n', rfl, hm'⟩ := h2
  refine kat_lt (N _ hm).1 rfl (N _ hm').1 rfl ?_
  show KatLex prog w A true _ C [(.bytes k.1 t, .bytes k'.1 t'), (.int k.2 u, .int k'.2 u'), (x, x')] 0 s
  refine kat_cons (eqBool_by (kat_go (fun e => kat_yes (kat_cons (wpAny_eqBool_int (kat_go (fun e2 => ?_) fun e2 => kat_no ?_)))) fun e => kat_no ?_))
  · exact absurd (eq_of_beq e2) hne
  · refine kat_one _ _ (cmp_ofLt (show wpAny _ _ (compareOp .Lt (.int k.2 u) (.int k'.2 u')) _ _ _ from lt_int ?_))
    have e1 := of_decide_eq_true e
    have z : rowLt k k' = decide (k.2 < k'.2) := by simp [rowLt, e1, blt_irrefl]
    rw [z] at h
    exact h
  · have e1 := of_decide_eq_false e
    have z : rowLt k k' = blt k.1 k'.1 := by simp [rowLt, e1]
    rw [z] at h
    exact oneLt_by h

theorem kasFin_of {D : Addr} {e1 : Nat} {out : List Value} {C : Shared → Prop} {s : Shared} (F : Fr h₀ L s.heap m) (N : News h₀ L s.heap ((D, seqObj "list" #[] e1) :: news)) (hl : ∀ q ∈ news, q.1 ≠ D)
    (k : ∀ h' c, Fr h₀ L h' m → News h₀ L h' ((D, listOf (List.toArray out) c) :: news) → C { s with heap := h' }) : KasFin h₀ L m D e1 out C s :=
  KasFin.intro F N (UpdF.head hl) k

theorem kat_small {a : Addr} {n : Nat} {P : PySem.Fin → Shared → Prop} (F : Fr h₀ L s.heap m) (N : News h₀ L s.heap news) (ho : s.heap.get? a = some (seqObj "list" vs.toArray n)) (haL : a ≠ L) (ha0 : h₀.get? a = none) (hna : ∀ p ∈ news, p.1 ≠ a)
    (h2 : vs.length < 2)
    (h : ∀ c h', Fr h₀ L h' m → News h₀ L h' ((a, listOf vs.toArray c) :: news) → P (.done (.ret .none)) { s with heap := h' }) :
    wpAny (model prog w) A (Builtin.«list.sort» ⟨[.ref a], []⟩) P E s := by
  have ha : a < s.heap.objs.size := Heap.lt_size ho
  have s1 := Heap.SameBut.update s.heap a (Obj.mapSeq fun _ => (#[] : Array Value))
  obtain ⟨e1, ho1⟩ : ∃ e1, (s.heap.update a (Obj.mapSeq fun _ => (#[] : Array Value))).get? a = some (seqObj "list" #[] e1) := ⟨_, get?_update_seq ho fun _ => #[]⟩
  have F3 : Fr h₀ L (((s.heap.update a (Obj.mapSeq fun _ => (#[] : Array Value))).push (seqObj "tuple" vs.toArray 0)).push (seqObj "list" #[] 0)) m := ((kas_fr F s1 haL ha0).push _).push _
  have N2 : News h₀ L (((s.heap.update a (Obj.mapSeq fun _ => (#[] : Array Value))).push (seqObj "tuple" vs.toArray 0)).push (seqObj "list" #[] 0)) news :=
    (kas_news N s1 hna).grown fun b x e => Heap.get?_push_of_some _ (Heap.get?_push_of_some _ e)
  have na : (((s.heap.update a (Obj.mapSeq fun _ => (#[] : Array Value))).push (seqObj "tuple" vs.toArray 0)).push (seqObj "list" #[] 0)).get? a = some (seqObj "list" #[] e1) := Heap.get?_push_of_some _ (Heap.get?_push_of_some _ ho1)
  have N3 : News h₀ L (((s.heap.update a (Obj.mapSeq fun _ => (#[] : Array Value))).push (seqObj "tuple" vs.toArray 0)).push (seqObj "list" #[] 0)) ([] ++ (a, seqObj "list" #[] e1) :: news) := fun p hp => by
    rcases List.mem_cons.mp hp with rfl | hp
    · exact ⟨na, haL, ha0⟩
    · exact N2 p hp
  rw [list_sort_plain]
  refine wpAny_bind (listItems_at ho rfl ?_)
  refine wpAny_bind (listUpdate_at ho rfl ?_ (by rw [List.size_toArray, sizeLine_eq]; omega) (Nat.zero_le _))
  refine wpAny_bind (seqEpoch_at ho1 rfl ?_)
  refine wpAny_bind (wpAny_newTuple ?_ (by show vs.length ≤ _; rw [sizeLine_eq]; omega))
  refine wpAny_bind (wpAny_newList ?_ (Nat.zero_le _))
  refine wpAny_holding ?_
  show wpAny (model prog w) A _ P E { s with heap := ((s.heap.update a (Obj.mapSeq fun _ => (#[] : Array Value))).push (seqObj "tuple" vs.toArray 0)).push (seqObj "list" #[] 0) }
  dsimp only
  have hn2 : vs.toArray.size < 2 := by rw [List.size_toArray]; omega
  rw [if_pos hn2, if_pos hn2]
  refine wpAny_bind (wpAny_pure ?_)
  rw [StateT.run_pure]
  refine wpAny_bind (wpAny_pure ?_)
  dsimp only
  refine wpAny_bind (seqEpoch_at na rfl ?_)
  have s2 := Heap.SameBut.update (((s.heap.update a (Obj.mapSeq fun _ => (#[] : Array Value))).push (seqObj "tuple" vs.toArray 0)).push (seqObj "list" #[] 0)) a (Obj.mapSeq fun _ => vs.toArray)
  obtain ⟨c2, hc2⟩ : ∃ c2, ((((s.heap.update a (Obj.mapSeq fun _ => (#[] : Array Value))).push (seqObj "tuple" vs.toArray 0)).push (seqObj "list" #[] 0)).update a (Obj.mapSeq fun _ => vs.toArray)).get? a = some (seqObj "list" vs.toArray c2) := ⟨_, get?_update_seq na fun _ => vs.toArray⟩
  have hout : (arrOf (SortSt.mk' general' (vs.toArray.zip vs.toArray) #[] 7 none)).map (·.2) = vs.toArray := by
    show (vs.toArray.zip vs.toArray).map (·.2) = vs.toArray
    apply Array.toList_inj.mp
    simp [List.map_snd_zip]
  rw [hout]
  refine wpAny_bind (listUpdate_at na rfl ?_ (Nat.zero_le _) (by rw [List.size_toArray, sizeLine_eq]; omega))
  rw [if_neg (by simp)]
  refine wpAny_pure (h c2 _ (kas_fr F3 s2 haL ha0) ?_)
  exact news_set N3 (fun _ hp => nomatch hp) hna s2 hc2

theorem sorted_small {l : Addr} {Q : Value → Shared → Prop} (F : Fr h₀ L s.heap m) (N : News h₀ L s.heap news) (hl : s.heap.IsList l vs.toArray) (h2 : vs.length < 2)
    (h : ∀ D c h', Fr h₀ L h' m → News h₀ L h' ((D, listOf vs.toArray c) :: news) → (∀ q ∈ news, q.1 < D) → Q (.ref D) { s with heap := h' }) :
    wpAny (model prog w) A (call (.builtin "sorted") [.ref l]) Q E s := by
  refine Calls.call_function_entry kind_sorted plain_sorted entry_sorted (args_sorted1 _) ?_
  unfold Builtin.«sorted»
  refine wpAny_bind (m := checkCount "sorted" 1 1 _) (wpAny_pure ?_)
  refine wpAny_bind (collect_list hl ?_ (by rw [sizeLine_eq]; omega))
  refine wpAny_bind (wpAny_newList ?_ (by rw [sizeLine_eq]; omega))
  have hsz : ((s.heap.push (seqObj "list" #[] 0)).update s.heap.objs.size (Obj.mapSeq (· ++ vs.toArray))).objs.size = s.heap.objs.size + 1 := by
    rw [Heap.size_update, size_push']
  have hoL : (((s.heap.push (seqObj "list" #[] 0)).update s.heap.objs.size (Obj.mapSeq (· ++ vs.toArray))).push (seqObj "list" vs.toArray 0)).get? (s.heap.objs.size + 1) = some (seqObj "list" vs.toArray 0) := by
    rw [← hsz]; exact Heap.get?_push_size _ rfl
  have keep : ∀ b o, s.heap.get? b = some o → (((s.heap.push (seqObj "list" #[] 0)).update s.heap.objs.size (Obj.mapSeq (· ++ vs.toArray))).push (seqObj "list" vs.toArray 0)).get? b = some o := fun b o q => by
    have hlt : b < s.heap.objs.size := Heap.lt_size q
    rw [Heap.get?_push_ne _ _ _ (by rw [hsz]; exact Nat.ne_of_lt (Nat.lt_succ_of_lt hlt)), Heap.get?_update_ne _ _ _ _ (Nat.ne_of_lt hlt), Heap.get?_push_ne _ _ _ (Nat.ne_of_lt hlt)]
    exact q
  have hL : L < s.heap.objs.size := F.ns.lt
  show wpAny _ _ _ _ _ { s with heap := ((s.heap.push (seqObj "list" #[] 0)).update s.heap.objs.size (Obj.mapSeq (· ++ vs.toArray))).push (seqObj "list" vs.toArray 0) }
  rw [hsz]
  refine wpAny_bind (wpAny_holding (wpAny_call_entry slot_list_sort ⟨_, hoL, rfl⟩ entry_list_sort ?body (args_list_sort _)))
  case body =>
    refine kat_small (s := { s with heap := ((s.heap.push (seqObj "list" #[] 0)).update s.heap.objs.size (Obj.mapSeq (· ++ vs.toArray))).push (seqObj "list" vs.toArray 0) })
      (F.kept keep) (N.grown keep) hoL (Nat.ne_of_gt (Nat.lt_succ_of_lt hL)) (Heap.get?_none_of_le (Nat.le_trans F.above (Nat.le_succ_of_le (Nat.le_of_lt hL))))
      (fun p hp => Nat.ne_of_lt (Nat.lt_succ_of_lt (Heap.lt_size (N p hp).1))) h2 fun c h' F' N' => ?_
    exact ⟨_, rfl, wpAny_pure ⟨_, rfl, h _ c h' F' N' fun q hq => Nat.lt_succ_of_lt (Heap.lt_size (N q hq).1)⟩⟩

/-- values and what they are, item by item -/
structure All2 {α β : Type} (P : α → β → Prop) (vs : List α) (ks : List β) : Prop where
  len : vs.length = ks.length
  at_ : ∀ (i : Nat) (v : α) (k : β), vs[i]? = some v → ks[i]? = some k → P v k
theorem All2.nil {α β : Type} {P : α → β → Prop} : All2 P [] [] := ⟨rfl, fun i v k h => by simp at h⟩
theorem All2.get {α β : Type} {P : α → β → Prop} {vs : List α} {ks : List β} (h : All2 P vs ks) {i : Nat} {k : β} (hk : ks[i]? = some k) : ∃ v, vs[i]? = some v ∧ P v k := by
  have hi : i < ks.length := (List.getElem?_eq_some_iff.mp hk).1
  have hv : vs[i]? = some (vs[i]'(by rw [h.len]; exact hi)) := List.getElem?_eq_getElem _
  exact ⟨_, hv, h.at_ i _ _ hv hk⟩
theorem All2.get' {α β : Type} {P : α → β → Prop} {vs : List α} {ks : List β} (h : All2 P vs ks) {i : Nat} {v : α} (hv : vs[i]? = some v) : ∃ k, ks[i]? = some k ∧ P v k := by
  have hi : i < vs.length := (List.getElem?_eq_some_iff.mp hv).1
  have hk : ks[i]? = some (ks[i]'(by rw [← h.len]; exact hi)) := List.getElem?_eq_getElem _
  exact ⟨_, hk, h.at_ i _ _ hv hk⟩
theorem All2.mono {α β : Type} {P P' : α → β → Prop} {vs : List α} {ks : List β} (h : All2 P vs ks) (hp : ∀ v k, P v k → P' v k) : All2 P' vs ks := ⟨h.len, fun i v k a b => hp _ _ (h.at_ i v k a b)⟩
theorem All2.append {α β : Type} {P : α → β → Prop} {vs us : List α} {ks ls : List β} (h : All2 P vs ks) (h' : All2 P us ls) : All2 P (vs ++ us) (ks ++ ls) := by
  refine ⟨by rw [List.length_append, List.length_append, h.len, h'.len], fun i v k a b => ?_⟩
  by_cases hi : i < vs.length
  · rw [List.getElem?_append_left hi] at a
    rw [List.getElem?_append_left (by rw [← h.len]; exact hi)] at b
    exact h.at_ i v k a b
  · rw [List.getElem?_append_right (by omega)] at a
    rw [List.getElem?_append_right (by rw [← h.len]; omega), ← h.len] at b
    exact h'.at_ _ v k a b
theorem All2.one {α β : Type} {P : α → β → Prop} {v : α} {k : β} (h : P v k) : All2 P [v] [k] := ⟨rfl, fun i v' k' a b => by
  cases i with
  | zero => simp at a b; subst a; subst b; exact h
  | succ i => simp at a⟩
theorem All2.pick {α β : Type} {P : α → β → Prop} {vs : List α} {ks : List β} {dv : α} {dk : β} (h : All2 P vs ks) {p : List Nat} (hp : ∀ i ∈ p, i < ks.length) : All2 P (p.map fun i => vs.getD i dv) (p.map fun i => ks.getD i dk) := by
  refine ⟨by simp, fun i v k a b => ?_⟩
  rw [List.getElem?_map] at a b
  cases e : p[i]? with
  | none => rw [e] at a; cases a
  | some j =>
    rw [e] at a b
    have hj := hp j (List.mem_of_getElem? e)
    have hj' : j < vs.length := by rw [h.len]; exact hj
    simp only [Option.map_some, Option.some.injEq] at a b
    subst a; subst b
    have e1 : vs.getD j dv = vs[j] := by simp [hj']
    have e2 : ks.getD j dk = ks[j] := by simp [hj]
    rw [e1, e2]
    exact h.at_ j _ _ (List.getElem?_eq_getElem _) (List.getElem?_eq_getElem _)

theorem tups_of (N : News h₀ L s.heap news) : ∀ (vs : List Value) (ks : List (By × Int)), All2 (RowIn news) vs ks → ∃ fs : List Value, KatTups s.heap vs fs ∧ fs.length = ks.length ∧ ∀ f ∈ fs, ∃ b t, f = .bytes b t
  | [], [], _ => ⟨[], KatTups.nil, rfl, fun _ h => nomatch h⟩
  | [], _ :: _, h => by have := h.len; simp at this
  | _ :: _, [], h => by have := h.len; simp at this
  | v :: vs, k :: ks, h => by
    obtain ⟨fs, h1, h2, h3⟩ := tups_of N vs ks ⟨by have := h.len; simpa using this, fun i v k a b => h.at_ (i + 1) v k (by simpa using a) (by simpa using b)⟩
    obtain ⟨a, x, t, u, n, rfl, hm⟩ := h.at_ 0 v k rfl rfl
    exact ⟨.bytes k.1 t :: fs, KatTups.cons (N _ hm).1 rfl rfl rfl h1, by rw [List.length_cons, List.length_cons, h2], fun f hf => by
      rcases List.mem_cons.mp hf with rfl | hf
      · exact ⟨_, _, rfl⟩
      · exact h3 f hf⟩

/-- sorted of a list of rows with unlike second parts -/
theorem sorted_rows {l : Addr} {Q : Value → Shared → Prop} (F : Fr h₀ L s.heap m) (N : News h₀ L s.heap news) (hl : s.heap.IsList l vs.toArray) (hr : All2 (RowIn news) vs ks) (hd : (ks.map (·.2)).Nodup) (h64 : ks.length < 64)
    (h : ∀ D c h' (p : List Nat), Fr h₀ L h' m → News h₀ L h' ((D, listOf (p.map fun i => vs.getD i Value.none).toArray c) :: news) → (∀ q ∈ news, q.1 < D) → p.Perm (List.range ks.length) →
      (p.map fun i => ks.getD i (#[], 0)).Pairwise (fun a b => rowLt a b = true) → Q (.ref D) { s with heap := h' }) :
    wpAny (model prog w) A (call (.builtin "sorted") [.ref l]) Q E s := by
  by_cases h2 : vs.length < 2
  · refine sorted_small F N hl h2 fun D c h' F' N' hl' => ?_
    have e1 : (List.range ks.length).map (fun i => vs.getD i Value.none) = vs := by
      rw [← hr.len]
      apply List.ext_getElem?
      intro i
      by_cases hi : i < vs.length
      · simp [hi]
      · simp [Nat.le_of_not_lt hi]
    refine h D c h' (List.range ks.length) F' (by rw [e1]; exact N') hl' (List.Perm.refl _) ?_
    rw [← hr.len]
    match hv : vs.length, h2 with
    | 0, _ => simp
    | 1, _ => simp
    | n + 2, q => omega
  · have h64' : vs.length < 64 := by rw [hr.len]; exact h64
    refine kat_sorted F N hl (by omega) h64' fun D e1 h' F' N' hl' => ?_
    have N2 : News h₀ L h' news := fun p hp => N' p (.tail _ hp)
    obtain ⟨fs, t1, t2, t3⟩ := tups_of (s := { s with heap := h' }) N2 vs ks hr
    refine kat_kind (T := .type "bytes") t1 (by have := hr.len; omega) (fun v hv => ?_) (by decide) ?_
    · obtain ⟨b, t, rfl⟩ := t3 v hv
      exact Looks.of_pure rfl
    · show KasT.kasWp _ _ _ _
      have hn : vs.length = ks.length := hr.len
      have inj : ∀ i j, i < ks.length → j < ks.length → i ≠ j → (ks.getD i (#[], 0)).2 ≠ (ks.getD j (#[], 0)).2 := fun i j hi hj hij e => by
        refine hij ((List.getElem?_inj (l := ks.map (·.2)) (by simpa using hi) hd).mp ?_)
        simp only [List.getElem?_map]
        have a1 : ks.getD i (#[], 0) = ks[i] := by simp [hi]
        have a2 : ks.getD j (#[], 0) = ks[j] := by simp [hj]
        rw [a1, a2] at e
        simp [hi, hj, e]
      have O : Ord vs.length (fun i j => rowLt (ks.getD i (#[], 0)) (ks.getD j (#[], 0))) := ⟨fun a b c => rowLt_trans, fun a b => rowLt_asymm, fun a b ha hb hab => rowLt_total (inj a b (by omega) (by omega) hab)⟩
      refine Run_wp (lt := fun i j => rowLt (ks.getD i (#[], 0)) (ks.getD j (#[], 0))) (n := vs.length) (fun i j C hi hj hij hC => ?_) _ (Run_mono (fun p hp => ?_) _ (run_sort O (by omega)))
      · show wpAny _ _ _ _ _ _
        have r1 := hr.at_ i (vs[i]'hi) (ks[i]'(by omega)) (List.getElem?_eq_getElem _) (List.getElem?_eq_getElem _)
        have r2 := hr.at_ j (vs[j]'hj) (ks[j]'(by omega)) (List.getElem?_eq_getElem _) (List.getElem?_eq_getElem _)
        have b1 : vs.getD i Value.none = vs[i] := by simp [hi]
        have b2 : vs.getD j Value.none = vs[j] := by simp [hj]
        have a1 : ks.getD i (#[], 0) = ks[i]'(by omega) := by simp [show i < ks.length by omega]
        have a2 : ks.getD j (#[], 0) = ks[j]'(by omega) := by simp [show j < ks.length by omega]
        have ne := inj i j (by omega) (by omega) hij
        rw [a1, a2] at hC ne
        rw [b1, b2]
        exact rows_lt (s := { s with heap := h' }) N2 r1 r2 ne hC
      · obtain ⟨P, S⟩ := hp
        refine kasFin_of F' N' (fun q hq => Nat.ne_of_lt (hl' q hq)) fun h2' c F2 N2' => ?_
        refine h D c h2' p.toList F2 N2' hl' (by rw [← hn]; exact P.perm) ?_
        rw [List.pairwise_map]
        rw [List.pairwise_iff_getElem]
        intro i j hi hj hij
        have hs : p.toList.length = vs.length := by rw [Array.length_toList, P.size]
        have := S i j hij (by omega)
        have c1 : p.getD i 0 = p.toList[i] := by
          have : i < p.size := by simpa using hi
          simp [Array.getD, this]
        have c2 : p.getD j 0 = p.toList[j] := by
          have : j < p.size := by simpa using hj
          simp [Array.getD, this]
        rw [c1, c2] at this
        exact this
end

end
section

abbrev Vars := Str → Option Value
section
variable {prog : Program} {w : World} {A : Around} {E : Value → Shared → Prop} {s : Shared} {env : Env} {h₀ : Heap} {x : Str} {body : List Stmt} {Q : Flow → Shared → Prop}
/-- a turn of a loop that leaves the ledger alone -/
def RoEnd (h₀ : Heap) (L : Addr) (x : Str) (m₀ : Vars) (nx : Led) (P : Prop) (s : Shared) (Q : Flow → Shared → Prop) (f : Flow) (s₂ : Shared) : Prop :=
  match f with
  | .ret v => Q (.ret v) s₂
  | .brk => Q .next s₂
  | _ => P ∧ ∃ h' tk' m', s₂ = { s with heap := h', toks := tk' } ∧ Fr h₀ L h' m' ∧ (∀ z, z ≠ x → m' z = m₀ z) ∧ News h₀ L h' nx
theorem RoEnd.next {h₀ : Heap} {L : Addr} {m₀ m' : Vars} {nx : Led} {P : Prop} {s : Shared} {h' : Heap} {tk' : Nat} (F : Fr h₀ L h' m') (N : News h₀ L h' nx) (hp : P) (hm : ∀ z, z ≠ x → m' z = m₀ z) :
    RoEnd h₀ L x m₀ nx P s Q .next { s with heap := h', toks := tk' } := ⟨hp, h', tk', m', rfl, F, hm, N⟩
theorem vars_at {m₁ m₀ : Vars} {v : Option Value} (h : ∀ z, z ≠ x → m₁ z = m₀ z) : (fun y => if y = x then v else m₁ y) = fun y => if y = x then v else m₀ y := by
  funext y
  by_cases e : y = x
  · simp [e]
  · simp [e, h y e]
theorem vars_out {m₁ m₀ : Vars} (h : ∀ z, z ≠ x → m₁ z = m₀ z) : m₁ = fun y => if y = x then m₁ x else m₀ y := by
  funext y
  by_cases e : y = x
  · simp [e]
  · simp [e, h y e]
/-- for over a range from nought by ones, any word over turn, frame and ledger -/
theorem range_G {r : Addr} {t₀ u₀ v₀ : Tok} {n : Nat} {m₀ : Vars} {news : Led} (J : Nat → Vars → Led → Prop)
    (hh : A.handled = none) (hr : IsRange s.heap r 0 (n : Int) 1 t₀ u₀ v₀) (hn : n < 2 ^ 40) (F : Fr h₀ env.locals s.heap m₀) (N : News h₀ env.locals s.heap news) (hj : J 0 m₀ news)
    (turn : ∀ (i : Nat) t m₁ nx h tk own, i < n → OwnOff own (nx.map (·.1)) → J i m₁ nx → Fr h₀ env.locals h (fun y => if y = x then some (.int (i : Int) t) else m₁ y) → News h₀ env.locals h (nx ++ own) →
      wpAny (model prog w) A (execs body env) (InvPostG h₀ env.locals (J (i + 1)) own { s with heap := h, toks := tk } Q) E { s with heap := h, toks := tk })
    (done : ∀ m₁ nx h tk, J n m₁ nx → Fr h₀ env.locals h m₁ → News h₀ env.locals h nx → Q .next { s with heap := h, toks := tk }) :
    wpAny (model prog w) A (pyIter (.ref r)) (fun it s₂ => LoopAtV prog w A h₀ env x body Q E it s₂) E s := by
  have hsz : Builtin.Range.rangeSize 0 (n : Int) 1 = (n : Int) := by
    have := rangeSize_nat 0 n
    simpa using this
  refine wpAny_pyIter_range hr (small_one (by omega) (by omega) (by omega) (by omega)) ?_
  have W : Walks prog w A s.heap.objs.size [s.heap.objs.size] [s.heap.objs.size] n (fun i v => i < n ∧ ∃ t, v = .int ((0 : Int) + i * 1) t)
      (fun i h => IsRangeIter h s.heap.objs.size ((0 : Int) + (i : Nat) * 1) ((n : Int) - (i : Nat)) 1) := (Walks.range hh _ 0 1 n).bound
  refine kdr_loop J W (fun _ h => h) (fun _ h => h) ?_ ?_ ?_ ?_ (by show IsRangeIter _ _ _ _ _; rw [hsz]; simpa using Heap.get?_push_size _ rfl) (F.push _) (fun p hp => ⟨Heap.get?_push_of_some _ (N p hp).1, (N p hp).2⟩) hj ?_ ?_
  · intro i h hi b hb
    rw [List.mem_singleton.mp hb]
    exact ⟨_, hi⟩
  · intro hm
    exact absurd F.ns.lt ((List.mem_singleton.mp hm) ▸ Nat.lt_irrefl _)
  · intro b hb
    rw [List.mem_singleton.mp hb]
    exact next_is_new F
  · intro p hp hI
    exact absurd (Heap.lt_size (N p hp).1) ((List.mem_singleton.mp hI) ▸ Nat.lt_irrefl _)
  · rintro i v m₁ nx h tk own hi ⟨_, t, rfl⟩ hoff hJ F₁ N₁
    have e1 : (0 : Int) + (i : Int) * 1 = (i : Int) := by omega
    rw [e1] at F₁
    exact turn i t m₁ nx h tk own hi hoff hJ F₁ N₁
  · rintro m₁ nx h tk hJ F₁ N₁
    exact done m₁ nx h tk hJ F₁ N₁
theorem range_ro {r : Addr} {t₀ u₀ v₀ : Tok} {n : Nat} {m₀ : Vars} {news : Led} (P : Nat → Prop)
    (hh : A.handled = none) (hr : IsRange s.heap r 0 (n : Int) 1 t₀ u₀ v₀) (hn : n < 2 ^ 40) (F : Fr h₀ env.locals s.heap m₀) (N : News h₀ env.locals s.heap news) (h0 : P 0)
    (turn : ∀ (i : Nat) t h tk nx, i < n → P i → (∀ p ∈ news, p ∈ nx) → Fr h₀ env.locals h (fun y => if y = x then some (.int (i : Int) t) else m₀ y) → News h₀ env.locals h nx →
      wpAny (model prog w) A (execs body env) (RoEnd h₀ env.locals x m₀ nx (P (i + 1)) s Q) E { s with heap := h, toks := tk })
    (done : ∀ v' h tk, P n → Fr h₀ env.locals h (fun y => if y = x then v' else m₀ y) → News h₀ env.locals h news → Q .next { s with heap := h, toks := tk }) :
    wpAny (model prog w) A (pyIter (.ref r)) (fun it s₂ => LoopAtV prog w A h₀ env x body Q E it s₂) E s := by
  refine range_G (news := news) (fun i m nx => nx = news ∧ P i ∧ ∀ z, z ≠ x → m z = m₀ z) hh hr hn F N ⟨rfl, h0, fun _ _ => rfl⟩ ?_ ?_
  · rintro i t m₁ nx h tk own hi hoff ⟨rfl, hp, hm⟩ F₁ N₁
    rw [vars_at hm] at F₁
    refine wpAny_mono (turn i t h tk (nx ++ own) hi hp (fun p hp => List.mem_append_left _ hp) F₁ N₁) (fun f s₂ q => ?_) fun _ _ e => e
    have up : RoEnd h₀ env.locals x m₀ (nx ++ own) (P (i + 1)) s Q .next s₂ → InvEndG h₀ env.locals (fun m nx' => nx' = nx ∧ P (i + 1) ∧ ∀ z, z ≠ x → m z = m₀ z) own { s with heap := h, toks := tk } s₂ := by
      rintro ⟨hp', h', tk', m', rfl, F', hm', N'⟩
      exact ⟨h', tk', m', nx ++ own, nx, rfl, F', N', fun p hp => List.mem_append_left _ hp, fun p hp => List.mem_append_right _ hp, hoff, rfl, hp', hm'⟩
    cases f with
    | ret v => exact q
    | brk => exact q
    | next => exact up q
    | cont => exact up q
  · rintro m₁ nx h tk ⟨rfl, hp, hm⟩ F₁ N₁
    rw [vars_out hm] at F₁
    exact done _ h tk hp F₁ N₁
theorem list_ro {l : Addr} {vs : List Value} {nn : Nat} {m₀ : Vars} {news : Led} (P : Nat → Prop)
    (hh : A.handled = none) (hl : (l, listOf vs.toArray nn) ∈ news) (F : Fr h₀ env.locals s.heap m₀) (N : News h₀ env.locals s.heap news) (h0 : P 0)
    (turn : ∀ (i : Nat) v h tk nx, vs[i]? = some v → P i → (∀ p ∈ news, p ∈ nx) → Fr h₀ env.locals h (fun y => if y = x then some v else m₀ y) → News h₀ env.locals h nx →
      wpAny (model prog w) A (execs body env) (RoEnd h₀ env.locals x m₀ nx (P (i + 1)) s Q) E { s with heap := h, toks := tk })
    (done : ∀ v' h tk, P vs.length → Fr h₀ env.locals h (fun y => if y = x then v' else m₀ y) → News h₀ env.locals h news → Q .next { s with heap := h, toks := tk }) :
    wpAny (model prog w) A (pyIter (.ref l)) (fun it s₂ => LoopAtV prog w A h₀ env x body Q E it s₂) E s := by
  refine kdl_iter (news := news) (fun i m nx => nx = news ∧ P i ∧ ∀ z, z ≠ x → m z = m₀ z) hh hl F N ⟨rfl, h0, fun _ _ => rfl⟩ ?_ ?_
  · rintro i v m₁ nx h tk own hv hoff hl' ⟨rfl, hp, hm⟩ F₁ N₁
    rw [vars_at hm] at F₁
    refine wpAny_mono (turn i v h tk (nx ++ own) hv hp (fun p hp => List.mem_append_left _ hp) F₁ N₁) (fun f s₂ q => ?_) fun _ _ e => e
    have up : RoEnd h₀ env.locals x m₀ (nx ++ own) (P (i + 1)) s Q .next s₂ → InvEndG h₀ env.locals (fun m nx' => (l, listOf vs.toArray nn) ∈ nx' ∧ nx' = nx ∧ P (i + 1) ∧ ∀ z, z ≠ x → m z = m₀ z) own { s with heap := h, toks := tk } s₂ := by
      rintro ⟨hp', h', tk', m', rfl, F', hm', N'⟩
      exact ⟨h', tk', m', nx ++ own, nx, rfl, F', N', fun p hp => List.mem_append_left _ hp, fun p hp => List.mem_append_right _ hp, hoff, hl', rfl, hp', hm'⟩
    cases f with
    | ret v => exact q
    | brk => exact q
    | next => exact up q
    | cont => exact up q
  · rintro m₁ nx h tk ⟨rfl, hp, hm⟩ F₁ N₁
    rw [vars_out hm] at F₁
    exact done _ h tk hp F₁ N₁
/-- a turn of a loop that appends a fresh tuple to the list fl -/
def BuildEnd (h₀ : Heap) (L : Addr) (x : Str) (m₀ : Vars) (fl : Addr) (vs : List Value) (rest : Led) (R : Led → Value → Prop) (s : Shared) (Q : Flow → Shared → Prop) (f : Flow) (s₂ : Shared) : Prop :=
  match f with
  | .ret v => Q (.ret v) s₂
  | .brk => Q .next s₂
  | _ => ∃ h' tk' m' v a o c', s₂ = { s with heap := h', toks := tk' } ∧ Fr h₀ L h' m' ∧ (∀ z, z ≠ x → m' z = m₀ z) ∧ News h₀ L h' ((a, o) :: (fl, listOf (vs ++ [v]).toArray c') :: rest) ∧ R [(a, o)] v ∧ o.cls = .type "tuple" ∧ a ≠ fl ∧ ∀ q ∈ rest, q.1 ≠ a
theorem range_build {r fl : Addr} {t₀ u₀ v₀ : Tok} {n c₀ : Nat} {m₀ : Vars} {news : Led} (R : Led → Value → Nat → Prop) (hR : ∀ l l' v i, R l v i → (∀ p ∈ l, p ∈ l') → R l' v i)
    (hh : A.handled = none) (hr : IsRange s.heap r 0 (n : Int) 1 t₀ u₀ v₀) (hn : n < 2 ^ 40) (F : Fr h₀ env.locals s.heap m₀) (N : News h₀ env.locals s.heap ((fl, listOf #[] c₀) :: news)) (hfl : ∀ q ∈ news, q.1 ≠ fl)
    (turn : ∀ (i : Nat) t h tk vs cN rest, i < n → vs.length = i → (∀ p ∈ news, p ∈ rest) → (∀ q ∈ rest, q.1 ≠ fl) → Fr h₀ env.locals h (fun y => if y = x then some (.int (i : Int) t) else m₀ y) → News h₀ env.locals h ((fl, listOf (vs : List Value).toArray cN) :: rest) →
      wpAny (model prog w) A (execs body env) (BuildEnd h₀ env.locals x m₀ fl vs rest (fun l v => R l v i) s Q) E { s with heap := h, toks := tk })
    (done : ∀ v' h tk vs cN tl, All2 (R tl) vs (List.range n) → (∀ q ∈ tl, q.2.cls = .type "tuple") → (∀ q ∈ tl ++ news, q.1 ≠ fl) → Fr h₀ env.locals h (fun y => if y = x then v' else m₀ y) → News h₀ env.locals h ((fl, listOf (vs : List Value).toArray cN) :: (tl ++ news)) → Q .next { s with heap := h, toks := tk }) :
    wpAny (model prog w) A (pyIter (.ref r)) (fun it s₂ => LoopAtV prog w A h₀ env x body Q E it s₂) E s := by
  refine range_G (news := (fl, listOf #[] c₀) :: news) (fun i m nx => (∀ z, z ≠ x → m z = m₀ z) ∧ ∃ vs cN tl, nx = (fl, listOf (vs : List Value).toArray cN) :: (tl ++ news) ∧ All2 (R tl) vs (List.range i) ∧ (∀ q ∈ tl, q.2.cls = .type "tuple") ∧ (∀ q ∈ tl ++ news, q.1 ≠ fl)) hh hr hn F N
    ⟨fun _ _ => rfl, [], c₀, [], rfl, All2.nil, (fun _ h => nomatch h), hfl⟩ ?_ ?_
  · rintro i t m₁ nx h tk own hi hoff ⟨hm, vs, cN, tl, rfl, hA, ht, hf⟩ F₁ N₁
    rw [vars_at hm] at F₁
    have hvs : vs.length = i := by rw [hA.len, List.length_range]
    refine wpAny_mono (turn i t h tk vs cN ((tl ++ news) ++ own) hi hvs (fun p hp => List.mem_append_left _ (List.mem_append_right _ hp)) (fun q hq => ?_) F₁ (by simpa using N₁)) (fun f s₂ q => ?_) fun _ _ e => e
    · rcases List.mem_append.mp hq with hq | hq
      · exact hf q hq
      · exact hoff q hq fl (by simp)
    have up : BuildEnd h₀ env.locals x m₀ fl vs ((tl ++ news) ++ own) (fun l v => R l v i) s Q .next s₂ → InvEndG h₀ env.locals (fun m nx' => (∀ z, z ≠ x → m z = m₀ z) ∧ ∃ vs cN tl, nx' = (fl, listOf (vs : List Value).toArray cN) :: (tl ++ news) ∧ All2 (R tl) vs (List.range (i + 1)) ∧ (∀ q ∈ tl, q.2.cls = .type "tuple") ∧ (∀ q ∈ tl ++ news, q.1 ≠ fl)) own { s with heap := h, toks := tk } s₂ := by
      rintro ⟨h', tk', m', v, a, o, c', rfl, F', hm', N', hv, ho, ha, hq⟩
      refine ⟨h', tk', m', _, (fl, listOf (vs ++ [v]).toArray c') :: (((a, o) :: tl) ++ news), rfl, F', N', fun p hp => ?_, fun p hp => List.mem_cons_of_mem _ (List.mem_cons_of_mem _ (List.mem_append_right _ hp)), fun p hp b hb => ?_, hm', vs ++ [v], c', (a, o) :: tl, rfl, ?_, ?_, ?_⟩
      · rcases List.mem_cons.mp hp with rfl | hp
        · exact List.mem_cons_of_mem _ List.mem_cons_self
        · rcases List.mem_cons.mp hp with rfl | hp
          · exact List.mem_cons_self
          · exact List.mem_cons_of_mem _ (List.mem_cons_of_mem _ (List.mem_append_left _ hp))
      · have h0 := hoff p hp
        simp only [List.map_cons, List.map_append, List.cons_append, List.mem_cons, List.mem_append] at hb h0
        rcases hb with rfl | rfl | hb | hb
        · exact h0 _ (.inl rfl)
        · exact hq p (List.mem_append_right _ hp)
        · exact h0 _ (.inr (.inl hb))
        · exact h0 _ (.inr (.inr hb))
      · rw [List.range_succ]
        exact (hA.mono fun v i hv => hR _ _ _ _ hv fun p hp => List.mem_cons_of_mem _ hp).append (All2.one (hR _ _ _ _ hv fun p hp => by rw [List.mem_singleton.mp hp]; exact List.mem_cons_self))
      · intro q hq
        rcases List.mem_cons.mp hq with rfl | hq
        · exact ho
        · exact ht q hq
      · intro q hq
        rcases List.mem_append.mp hq with hq | hq
        · rcases List.mem_cons.mp hq with rfl | hq
          · exact ha
          · exact hf q (List.mem_append_left _ hq)
        · exact hf q (List.mem_append_right _ hq)
    cases f with
    | ret v => exact q
    | brk => exact q
    | next => exact up q
    | cont => exact up q
  · rintro m₁ nx h tk ⟨hm, vs, cN, tl, rfl, hA, ht, hf⟩ F₁ N₁
    rw [vars_out hm] at F₁
    exact done _ h tk vs cN tl hA ht hf F₁ N₁
end

end
section

open AutoSeq1 (wpAny_loadPart')
open PySem.SeqAt
theorem eqAt_by (A : Around) (s : Shared) (b c : By) (t u : Tok) : EqAt A s (.bytes b t) (.bytes c u) (decide (b = c)) := fun _ _ _ _ h => eqBool_by h
theorem eqAt_str (A : Around) (s : Shared) (b c : Str) (t u : Tok) : EqAt A s (.str b t) (.str c u) (decide (b = c)) := fun _ _ _ _ h => wpAny_eqBool_str h
theorem tuple_gt2 (l b : Addr) (x y : By) (i j : Int) (t u t' u' : Tok) (n n2 : Nat) (dd dd2 : Option Addr) (sl sl2 : Array (Option Value)) :
    Meets (Builtin.«tuple.__gt__» ⟨[.ref l, .ref b], []⟩)
      (fun A R s => s.heap.get? l = some { cls := .type "tuple", dict := dd, data := .seq #[.bytes x t, .int i u] n, slots := sl } ∧ s.heap.get? b = some { cls := .type "tuple", dict := dd2, data := .seq #[.bytes y t', .int j u'] n2, slots := sl2 } ∧
        R (.ok (.ret (.bool (rowLt (y, j) (x, i))))) s) :=
  .of_wp fun prog w A R s h => by
    obtain ⟨hp, g, d, tk, os⟩ := s; obtain ⟨hl, hb, h⟩ := h
    have f2 := AutoSeq1.sub_tuple_tuple
    wp_walk using wpAny_loadPart' hl, wpAny_loadPart' hb, wpAny_forIn_list _ (fun rest b s' => b.1 = none ∧ s' = ⟨hp, g, d, tk, os⟩ ∧
      (rest = [(.bytes x t, .bytes y t'), (.int i u, .int j u')] ∨ (rest = [(.int i u, .int j u')] ∧ x = y) ∨ (rest = [] ∧ x = y ∧ i = j))) _
    case turn =>
      rintro ⟨v, v'⟩ rest b s' ⟨hb', rfl, hz⟩
      rcases hz with hz | ⟨hz, exy⟩ | ⟨hz, _⟩
      · injection hz with hyx hrest
        injection hyx with e1 e2
        subst e1; subst e2
        refine wpAny_bind (eqBool_by ?_)
        by_cases e : x = y
        · rw [decide_eq_true e]
          wp_walk
          exact ⟨rfl, rfl, .inr (.inl ⟨hrest, e⟩)⟩
        · rw [decide_eq_false e]
          simp only [Bool.not_false, if_true]
          refine wpAny_bind (wpAny_rule (wpAny_bind (gt_by (wpAny_pure ?_))))
          refine wpAny_pure ⟨_, rfl, ?_⟩
          have z : rowLt (y, j) (x, i) = blt y x := by simp [rowLt, Ne.symm e]
          rw [z] at h
          exact h
      · injection hz with hyx hrest
        injection hyx with e1 e2
        subst e1; subst e2
        refine wpAny_bind (wpAny_eqBool_int ?_)
        by_cases e : i = j
        · subst e
          simp only [beq_self_eq_true]
          wp_walk
          exact ⟨rfl, rfl, .inr (.inr ⟨hrest, exy, by simp⟩)⟩
        · have e' : (i == j) = false := by simp [e]
          rw [e']
          simp only [Bool.not_false, if_true]
          refine wpAny_bind (wpAny_rule (wpAny_bind (show wpAny _ _ (compareOp .Gt (.int i u) (.int j u')) _ _ _ from gt_int (wpAny_pure ?_))))
          refine wpAny_pure ⟨_, rfl, ?_⟩
          have z : rowLt (y, j) (x, i) = decide (j < i) := by simp [rowLt, exy, blt_irrefl]
          rw [z] at h
          exact h
      · cases hz
    case fin =>
      rintro ⟨b1, b2⟩ s' ⟨hb', rfl, hz⟩
      simp only at hb'
      subst hb'
      rcases hz with hz | ⟨hz, _⟩ | ⟨_, exy, eij⟩
      · cases hz
      · cases hz
      · refine wpAny_pure ⟨_, rfl, ?_⟩
        have z : rowLt (y, j) (x, i) = false := by simp [rowLt, exy, eij, blt_irrefl]
        rw [z] at h
        exact h
    case h => exact ⟨rfl, rfl, .inl rfl⟩
section
variable {prog : Program} {w : World} {A : Around} {E : Value → Shared → Prop} {s : Shared} {h₀ : Heap} {L a b : Addr} {news : Led} {Q : Value → Shared → Prop}
/-- a pair of bytes and an int above another -/
theorem gt_pair {x y : By} {i j : Int} {t u t' u' : Tok} {n n2 : Nat} (N : News h₀ L s.heap news) (ha : (a, tupOf #[.bytes x t, .int i u] n) ∈ news) (hb : (b, tupOf #[.bytes y t', .int j u'] n2) ∈ news) (hu : A.units < cLine)
    (h : Q (.bool (rowLt (y, j) (x, i))) s) : wpAny (model prog w) A (compareOp .Gt (.ref a) (.ref b)) Q E s := by
  refine cmp_ofGt ?_
  have ha' := (N _ ha).1
  have hb' := (N _ hb).1
  exact richCompare_meets_room (op := .Gt) ⟨_, ha', rfl⟩ ⟨_, hb', rfl⟩ F.slot_tuple_gt F.entry_tuple_gt (F.args_tuple_gt_2 _ _) (tuple_gt2 a b x y i j t u t' u' n n2 none none #[] #[])
    ⟨ha', hb', show Value.bool (rowLt (y, j) (x, i)) ≠ Value.notImplemented ∧ Q (.bool (rowLt (y, j) (x, i))) s from ⟨(fun x => nomatch x), h⟩⟩ hu
theorem isL {xs : Array Value} {n : Nat} (N : News h₀ L s.heap news) (ha : (a, listOf xs n) ∈ news) : s.heap.IsList a xs := ⟨_, (N _ ha).1, rfl, n, rfl⟩
theorem isT {xs : Array Value} {n : Nat} (N : News h₀ L s.heap news) (ha : (a, tupOf xs n) ∈ news) : s.heap.IsTuple a xs := ⟨_, (N _ ha).1, rfl, n, rfl⟩
theorem ne_nil {xs : Array Value} {n n2 : Nat} (N : News h₀ L s.heap news) (ha : (a, listOf xs n) ∈ news) (hb : (b, listOf #[] n2) ∈ news) (hu : A.units < cLine) (h : Q (.bool (!decide (xs.size = 0))) s) :
    wpAny (model prog w) A (compareOp .NotEq (.ref a) (.ref b)) Q E s := by
  refine cmp_ofNotEq ?_
  by_cases e : xs.size = 0
  · have z := RcNeAt.lists (A := A) (e := fun _ => true) (isL N ha) (isL N hb) (by simpa using e) hu (fun j h1 h2 => absurd h2 (Nat.not_lt_zero _)) prog w E Q
    refine z ?_
    rw [decide_eq_true e] at h
    rw [e]
    simpa using h
  · refine RcNeAt.lists_lengths (A := A) (isL N ha) (isL N hb) (by simpa using e) hu prog w E Q ?_
    rw [decide_eq_false e] at h
    exact h
theorem eq_nil {xs : Array Value} {n n2 : Nat} (N : News h₀ L s.heap news) (ha : (a, listOf xs n) ∈ news) (hb : (b, listOf #[] n2) ∈ news) (hu : A.units < cLine) (h : Q (.bool (decide (xs.size = 0))) s) :
    wpAny (model prog w) A (compareOp .Eq (.ref a) (.ref b)) Q E s := by
  by_cases e : xs.size = 0
  · refine eq_listAt (e := fun _ => true) (isL N ha) (isL N hb) (by simpa using e) hu (fun j h1 h2 => absurd h2 (Nat.not_lt_zero _)) ?_
    rw [decide_eq_true e] at h
    rw [e]
    simpa using h
  · refine eq_list_lengthsAt (isL N ha) (isL N hb) (by simpa using e) hu ?_
    rw [decide_eq_false e] at h
    exact h
/-- a value that is bytes -/
def IsB (v : Value) (b : By) : Prop := ∃ t, v = .bytes b t
theorem bys_all {xs ys : List Value} {bs cs : List By} (hx : All2 IsB xs bs) (hy : All2 IsB ys cs) (hl : xs.length = ys.length) : (List.range xs.toArray.size).all (fun j => decide (bs[j]? = cs[j]?)) = decide (bs = cs) := by
  rw [Bool.eq_iff_iff]
  simp only [List.all_eq_true, List.mem_range, decide_eq_true_eq, List.size_toArray]
  constructor
  · intro h
    apply List.ext_getElem?
    intro i
    by_cases hi : i < xs.length
    · exact h i hi
    · have h1 := hx.len
      have h2 := hy.len
      rw [List.getElem?_eq_none (by omega), List.getElem?_eq_none (by omega)]
  · rintro rfl i _
    rfl
theorem bys_at (A : Around) (s : Shared) {xs ys : List Value} {bs cs : List By} (hx : All2 IsB xs bs) (hy : All2 IsB ys cs) : ∀ j (h1 : j < xs.toArray.size) (h2 : j < ys.toArray.size), EqAt A s xs.toArray[j] ys.toArray[j] (decide (bs[j]? = cs[j]?)) := by
  intro j h1 h2
  have h1' : j < xs.length := by simpa using h1
  have h2' : j < ys.length := by simpa using h2
  obtain ⟨b, hb, t, e⟩ := hx.get' (List.getElem?_eq_getElem h1')
  obtain ⟨c, hc, u, e'⟩ := hy.get' (List.getElem?_eq_getElem h2')
  have e1 : xs.toArray[j] = .bytes b t := by rw [List.getElem_toArray]; exact e
  have e2 : ys.toArray[j] = .bytes c u := by rw [List.getElem_toArray]; exact e'
  rw [e1, e2, hb, hc]
  simp only [Option.some.injEq]
  exact eqAt_by A s b c t u
theorem ne_bys {xs ys : List Value} {bs cs : List By} {n n2 : Nat} (N : News h₀ L s.heap news) (ha : (a, listOf xs.toArray n) ∈ news) (hb : (b, listOf ys.toArray n2) ∈ news) (hx : All2 IsB xs bs) (hy : All2 IsB ys cs) (hu : A.units < cLine) (h : Q (.bool (!decide (bs = cs))) s) :
    wpAny (model prog w) A (compareOp .NotEq (.ref a) (.ref b)) Q E s := by
  refine cmp_ofNotEq ?_
  by_cases e : xs.length = ys.length
  · refine RcNeAt.lists (A := A) (isL N ha) (isL N hb) (by simpa using e) hu (bys_at _ _ hx hy) prog w E Q ?_
    rw [bys_all hx hy e]
    exact h
  · refine RcNeAt.lists_lengths (A := A) (isL N ha) (isL N hb) (by simpa using e) hu prog w E Q ?_
    rw [decide_eq_false (fun q => e (by rw [hx.len, hy.len, q]))] at h
    exact h
theorem eq_bys {xs ys : List Value} {bs cs : List By} {n n2 : Nat} (N : News h₀ L s.heap news) (ha : (a, listOf xs.toArray n) ∈ news) (hb : (b, listOf ys.toArray n2) ∈ news) (hx : All2 IsB xs bs) (hy : All2 IsB ys cs) (hu : A.units < cLine) (h : Q (.bool (decide (bs = cs))) s) :
    wpAny (model prog w) A (compareOp .Eq (.ref a) (.ref b)) Q E s := by
  by_cases e : xs.length = ys.length
  · refine eq_listAt (isL N ha) (isL N hb) (by simpa using e) hu (bys_at _ _ hx hy) ?_
    rw [bys_all hx hy e]
    exact h
  · refine eq_list_lengthsAt (isL N ha) (isL N hb) (by simpa using e) hu ?_
    rw [decide_eq_false (fun q => e (by rw [hx.len, hy.len, q]))] at h
    exact h
/-- is the value these bytes -/
def isBy (b : By) : Value → Bool
  | .bytes c _ => decide (c = b)
  | _ => false
theorem any_by {xs : List Value} {bs : List By} {b : By} (hx : All2 IsB xs bs) : xs.toArray.any (isBy b) = decide (b ∈ bs) := by
  rw [Bool.eq_iff_iff]
  simp only [List.any_toArray, List.any_eq_true, decide_eq_true_eq]
  constructor
  · rintro ⟨v, hv, he⟩
    obtain ⟨i, hi, rfl⟩ := List.mem_iff_getElem.mp hv
    obtain ⟨c, hc, t, e⟩ := hx.get' (List.getElem?_eq_getElem hi)
    rw [e] at he
    have : c = b := by simpa [isBy] using he
    rw [← this]
    exact List.mem_of_getElem? hc
  · intro hb
    obtain ⟨i, hi, rfl⟩ := List.mem_iff_getElem.mp hb
    obtain ⟨v, hv, t, e⟩ := hx.get (List.getElem?_eq_getElem hi)
    exact ⟨v, List.mem_of_getElem? hv, by rw [e]; simp [isBy]⟩
theorem any_at (A : Around) (s : Shared) {xs : List Value} {bs : List By} {b : By} {t : Tok} (hx : All2 IsB xs bs) : ∀ y, y ∈ xs.toArray → EqAt A s y (.bytes b t) (isBy b y) := by
  intro y hy
  have hy' : y ∈ xs := by simpa using hy
  obtain ⟨i, hi, rfl⟩ := List.mem_iff_getElem.mp hy'
  obtain ⟨c, hc, t, e⟩ := hx.get' (List.getElem?_eq_getElem hi)
  rw [e]
  exact eqAt_by A s c b _ _
theorem in_bys {xs : List Value} {bs : List By} {x : By} {t : Tok} {n : Nat} (N : News h₀ L s.heap news) (ha : (a, listOf xs.toArray n) ∈ news) (hx : All2 IsB xs bs) (h : Q (.bool (decide (x ∈ bs))) s) :
    wpAny (model prog w) A (compareOp .In (.bytes x t) (.ref a)) Q E s :=
  in_listAt (isBy x) (isL N ha) (any_at _ _ hx) (by rw [any_by hx]; exact h)
/-- two pairs unlike -/
theorem ne_pair {p q p' q' : Value} {e₁ e₂ : Bool} {n n2 : Nat} (N : News h₀ L s.heap news) (ha : (a, tupOf #[p, q] n) ∈ news) (hb : (b, tupOf #[p', q'] n2) ∈ news) (hu : A.units < cLine) (h1 : EqAt A.in1 s p p' e₁) (h2 : EqAt A.in1 s q q' e₂) (h : Q (.bool (!(e₁ && e₂))) s) :
    wpAny (model prog w) A (compareOp .NotEq (.ref a) (.ref b)) Q E s := by
  refine cmp_ofNotEq (RcNeAt.tuples (A := A) (e := fun j => if j = 0 then e₁ else e₂) (isT N ha) (isT N hb) hu (fun j h1' h2' => ?_) prog w E Q ?_)
  · match j, h1' with
    | 0, _ => exact h1
    | 1, _ => exact h2
  · show Q (.bool (!((List.range 2).all (fun j => if j = 0 then e₁ else e₂) && (2 == 2)))) s
    simpa [List.range_succ] using h
end

end
section

open PyProof.Rows.LCg
section
variable {prog : Program} {w : World} {A : Around} {s : Shared} {h₀ : Heap} {L : Addr} {m : Vars} {env : Env} {elt ct : Expr} {x : Str} {scope : Scope} {cl : List (Str × Addr)} {S : Led → Prop} {P : Nat → Value → Prop} {Fin : List Value → Led → Prop} {n : Nat}
/-- a comprehension by any word over turn, values and ledger -/
theorem comp_G (J : Nat → List Value → Led → Prop) (fin : ∀ ys nw, J n ys nw → Fin ys nw)
    (turn : ∀ i v ys nw I oI C oC D m₂ h tk (E' : Value → Shared → Prop), i < n → P i v → J i ys nw → NsObj oC m₂ → m₂ x = some v → Fr h₀ L h m → News h₀ L h ((I, oI) :: (C, oC) :: (D, lst ys) :: nw) → Off3 I C D nw → ((@Ne Nat I C) ∧ (@Ne Nat I D) ∧ (@Ne Nat C D)) →
      wpAny (model prog w) A (eval elt (compEnvC scope cl C env)) (CompEnd h₀ L m { s with heap := h, toks := tk } I oI C oC D (lst ys) S (fun y nw' => J (i + 1) (ys ++ [y]) nw')) E' { s with heap := h, toks := tk }) :
    ∀ (k i : Nat) (ys : List Value) (nw : Led), i + k = n → J i ys nw → CompRest prog w A h₀ L m env elt x scope cl s S P Fin k i ys nw
  | 0, i, ys, nw, hi, hJ => CompRest.zero (fin ys nw (by rw [← hi]; exact hJ))
  | k + 1, i, ys, nw, hi, hJ => by
    refine CompRest.succ fun v I oI C oC D m₂ h tk E' hP hC hx F N off ne => ?_
    refine wpAny_mono (turn i v ys nw I oI C oC D m₂ h tk E' (by omega) hP hJ hC hx F N off ne) (fun y s₂ hq => ?_) fun _ _ e => e
    obtain ⟨h', tk', nw', e, F', N', off', hS, hJ'⟩ := hq
    exact ⟨h', tk', nw', e, F', N', off', hS, comp_G J fin turn k (i + 1) _ nw' (by omega) hJ'⟩
/-- a turn of a comprehension that leaves the ledger alone -/
def CoEnd (h₀ : Heap) (L : Addr) (m : Vars) (nx : Led) (s : Shared) (Jn : Value → Prop) (y : Value) (s₂ : Shared) : Prop := ∃ h' tk', s₂ = { s with heap := h', toks := tk' } ∧ Fr h₀ L h' m ∧ News h₀ L h' nx ∧ Jn y
theorem comp_ro {news : Led} (J : Nat → List Value → Prop) (hS : S news) (h0 : J 0 []) (fin : ∀ ys, J n ys → Fin ys news)
    (turn : ∀ i v ys nx C oC m₂ h tk (E' : Value → Shared → Prop), i < n → P i v → J i ys → NsObj oC m₂ → m₂ x = some v → (C, oC) ∈ nx → (∀ p ∈ news, p ∈ nx) → Fr h₀ L h m → News h₀ L h nx →
      wpAny (model prog w) A (eval elt (compEnvC scope cl C env)) (CoEnd h₀ L m nx s (fun y => J (i + 1) (ys ++ [y]))) E' { s with heap := h, toks := tk }) :
    CompRest prog w A h₀ L m env elt x scope cl s S P Fin n 0 [] news := by
  refine comp_G (fun i ys nw => nw = news ∧ J i ys) (fun ys nw hJ => hJ.1 ▸ fin ys hJ.2) ?_ n 0 [] news (by omega) ⟨rfl, h0⟩
  rintro i v ys nw I oI C oC D m₂ h tk E' hi hP ⟨rfl, hJ⟩ hC hx F N off ne
  refine wpAny_mono (turn i v ys _ C oC m₂ h tk E' hi hP hJ hC hx (List.mem_cons_of_mem _ List.mem_cons_self) (fun p hp => List.mem_cons_of_mem _ (List.mem_cons_of_mem _ (List.mem_cons_of_mem _ hp))) F N) (fun y s₂ hq => ?_) fun _ _ e => e
  obtain ⟨h', tk', rfl, F', N', hJ'⟩ := hq
  exact ⟨h', tk', nw, rfl, F', N', off, hS, rfl, hJ'⟩
/-- a turn of a comprehension with a test -/
def CtEnd (h₀ : Heap) (L : Addr) (m : Vars) (nx : Led) (s : Shared) (no : Prop) (yes : Shared → Prop) (ok : Bool) (s₂ : Shared) : Prop := ∃ h' tk', s₂ = { s with heap := h', toks := tk' } ∧ Fr h₀ L h' m ∧ News h₀ L h' nx ∧ (ok = true → yes s₂) ∧ (ok = false → no)
theorem compT_ro {news : Led} (J : Nat → List Value → Prop) (hS : S news) (fin : ∀ ys, J n ys → Fin ys news)
    (turn : ∀ i v ys nx C oC m₂ h tk (E' : Value → Shared → Prop), i < n → P i v → J i ys → NsObj oC m₂ → m₂ x = some v → (C, oC) ∈ nx → (∀ p ∈ news, p ∈ nx) → Fr h₀ L h m → News h₀ L h nx →
      wpAny (model prog w) A (isTrue ct (compEnvC scope cl C env) (eval ct (compEnvC scope cl C env))) (CtEnd h₀ L m nx s (J (i + 1) ys) (fun s' => wpAny (model prog w) A (eval elt (compEnvC scope cl C env)) (CoEnd h₀ L m nx s (fun y => J (i + 1) (ys ++ [y]))) E' s')) E' { s with heap := h, toks := tk }) :
    ∀ (k i : Nat) (ys : List Value), i + k = n → J i ys → LCt.CompRestT prog w A h₀ L m env ct elt x scope cl s S P Fin k i ys news
  | 0, i, ys, hi, hJ => LCt.CompRestT.zero (fin ys (by rw [← hi]; exact hJ))
  | k + 1, i, ys, hi, hJ => by
    refine LCt.CompRestT.succ fun v I oI C oC D m₂ h tk E' hP hC hx F N off ne => ?_
    refine wpAny_mono (turn i v ys _ C oC m₂ h tk E' (by omega) hP hJ hC hx (List.mem_cons_of_mem _ List.mem_cons_self) (fun p hp => List.mem_cons_of_mem _ (List.mem_cons_of_mem _ (List.mem_cons_of_mem _ hp))) F N) (fun ok s₂ hq => ?_) fun _ _ e => e
    obtain ⟨h', tk', rfl, F', N', hy, hn⟩ := hq
    cases ok with
    | false => exact ⟨h', tk', news, rfl, F', N', off, hS, compT_ro J hS fin turn k (i + 1) ys (by omega) (hn rfl)⟩
    | true =>
      refine wpAny_mono (hy rfl) (fun y s₃ hz => ?_) fun _ _ e => e
      obtain ⟨h3, tk3, rfl, F3, N3, hJ3⟩ := hz
      exact ⟨h3, tk3, news, rfl, F3, N3, off, hS, compT_ro J hS fin turn k (i + 1) _ (by omega) hJ3⟩
/-- [v for v in vs if ..] over a list whose items are told -/
theorem compT_filter {α : Type} {news l₀ : Led} {R : Led → Value → α → Prop} (hR : ∀ l l' v a, R l v a → (∀ q ∈ l, q ∈ l') → R l' v a) {vs : List Value} {as : List α} (hA : All2 (R l₀) vs as) (hl : ∀ q ∈ l₀, q ∈ news) (pz : α → Bool) (hS : S news)
    (fin : ∀ ys, All2 (R l₀) ys (as.filter pz) → Fin ys news)
    (turn : ∀ (i : Nat) a v nx C oC m₂ h tk (E' : Value → Shared → Prop), as[i]? = some a → R nx v a → NsObj oC m₂ → m₂ x = some v → (C, oC) ∈ nx → (∀ p ∈ news, p ∈ nx) → Fr h₀ L h m → News h₀ L h nx →
      wpAny (model prog w) A (isTrue ct (compEnvC scope cl C env) (eval ct (compEnvC scope cl C env))) (CtEnd h₀ L m nx s (pz a = false) (fun s' => pz a = true ∧ wpAny (model prog w) A (eval elt (compEnvC scope cl C env)) (CoEnd h₀ L m nx s (fun y => y = v)) E' s')) E' { s with heap := h, toks := tk }) :
    LCt.CompRestT prog w A h₀ L m env ct elt x scope cl s S (fun i v => vs.toArray[i]? = some v) Fin vs.toArray.size 0 [] news := by
  refine compT_ro (n := vs.toArray.size) (fun i ys => All2 (R l₀) ys ((as.take i).filter pz)) hS (fun ys hJ => fin ys ?_) ?_ _ 0 [] (by omega) (by simpa using All2.nil)
  · rw [List.size_toArray, hA.len, List.take_length] at hJ; exact hJ
  · intro i v ys nx C oC m₂ h tk E' hi hP hJ hC hx hm hsub F N
    have hv : vs[i]? = some v := by simpa using hP
    obtain ⟨a, ha, hr⟩ := hA.get' hv
    have ht : as.take (i + 1) = as.take i ++ [a] := by rw [List.take_add_one, ha]; rfl
    refine wpAny_mono (turn i a v nx C oC m₂ h tk E' ha (hR _ _ _ _ hr fun q hq => hsub q (hl q hq)) hC hx hm hsub F N) (fun ok s₂ hq => ?_) fun _ _ e => e
    obtain ⟨h', tk', rfl, F', N', hy, hn⟩ := hq
    refine ⟨h', tk', rfl, F', N', fun e => ?_, fun e => ?_⟩
    · obtain ⟨hz, hw⟩ := hy e
      refine wpAny_mono hw (fun y s₃ hq3 => ?_) fun _ _ e => e
      obtain ⟨h3, tk3, rfl, F3, N3, rfl⟩ := hq3
      refine ⟨h3, tk3, rfl, F3, N3, ?_⟩
      rw [ht, List.filter_append]
      simp only [List.filter_cons, hz, if_true, List.filter_nil]
      exact hJ.append (All2.one hr)
    · rw [ht, List.filter_append]
      simp only [List.filter_cons, hn e, Bool.false_eq_true, if_false, List.filter_nil, List.append_nil]
      exact hJ
/-- [f(v) for v in vs], the ledger left alone -/
theorem comp_map {α β : Type} {news : Led} {R : Value → α → Prop} {R' : Value → β → Prop} (f : α → β) {vs : List Value} {as : List α} (hA : All2 R vs as) (hS : S news) (fin : ∀ ys, All2 R' ys (as.map f) → Fin ys news)
    (turn : ∀ (i : Nat) a v nx C oC m₂ h tk (E' : Value → Shared → Prop), as[i]? = some a → R v a → NsObj oC m₂ → m₂ x = some v → (C, oC) ∈ nx → (∀ p ∈ news, p ∈ nx) → Fr h₀ L h m → News h₀ L h nx →
      wpAny (model prog w) A (eval elt (compEnvC scope cl C env)) (CoEnd h₀ L m nx s (fun y => R' y (f a))) E' { s with heap := h, toks := tk }) :
    CompRest prog w A h₀ L m env elt x scope cl s S (fun i v => vs.toArray[i]? = some v) Fin vs.toArray.size 0 [] news := by
  refine comp_ro (n := vs.toArray.size) (fun i ys => All2 R' ys ((as.take i).map f)) hS (by simpa using All2.nil) (fun ys hJ => fin ys ?_) ?_
  · rw [List.size_toArray, hA.len, List.take_length] at hJ; exact hJ
  · intro i v ys nx C oC m₂ h tk E' hi hP hJ hC hx hm hsub F N
    have hv : vs[i]? = some v := by simpa using hP
    obtain ⟨a, ha, hr⟩ := hA.get' hv
    have ht : as.take (i + 1) = as.take i ++ [a] := by rw [List.take_add_one, ha]; rfl
    refine wpAny_mono (turn i a v nx C oC m₂ h tk E' ha hr hC hx hm hsub F N) (fun y s₂ hq => ?_) fun _ _ e => e
    obtain ⟨h', tk', rfl, F', N', hy⟩ := hq
    refine ⟨h', tk', rfl, F', N', ?_⟩
    rw [ht, List.map_append]
    exact hJ.append (All2.one hy)
end

end
section

section
variable {prog : Program} {w : World} {A : Around} {E : Value → Shared → Prop} {s : Shared} {env : Env} {h₀ : Heap} {x : Str} {body : List Stmt} {Q : Flow → Shared → Prop}
/-- a search: a turn leaves the loop where pz holds, and goes on where it does not -/
theorem list_search {α : Type} {l : Addr} {vs : List Value} {as : List α} {nn : Nat} {m₀ : Vars} {news l₀ : Led} {R : Led → Value → α → Prop} (hh : A.handled = none) (F : Fr h₀ env.locals s.heap m₀) (N : News h₀ env.locals s.heap news) (hl : (l, listOf vs.toArray nn) ∈ news)
    (hR : ∀ l l' v a, R l v a → (∀ q ∈ l, q ∈ l') → R l' v a) (hA : All2 (R l₀) vs as) (hl₀ : ∀ q ∈ l₀, q ∈ news) (pz : α → Bool)
    (turn : ∀ (i : Nat) a v h tk nx, as[i]? = some a → (∀ (j : Nat) b, j < i → as[j]? = some b → pz b = false) → R nx v a → (∀ p ∈ news, p ∈ nx) → Fr h₀ env.locals h (fun y => if y = x then some v else m₀ y) → News h₀ env.locals h nx →
      wpAny (model prog w) A (execs body env) (RoEnd h₀ env.locals x m₀ nx (pz a = false) s Q) E { s with heap := h, toks := tk })
    (done : ∀ v' h tk, (∀ a ∈ as, pz a = false) → Fr h₀ env.locals h (fun y => if y = x then v' else m₀ y) → News h₀ env.locals h news → Q .next { s with heap := h, toks := tk }) :
    wpAny (model prog w) A (pyIter (.ref l)) (fun it s₂ => LoopAtV prog w A h₀ env x body Q E it s₂) E s := by
  refine list_ro (fun i => ∀ (j : Nat) b, j < i → as[j]? = some b → pz b = false) hh hl F N (fun j b hj _ => absurd hj (Nat.not_lt_zero _)) ?_ ?_
  · intro i v h tk nx hv hP hsub F₁ N₁
    obtain ⟨a, ha, hr⟩ := hA.get' hv
    refine wpAny_mono (turn i a v h tk nx ha hP (hR _ _ _ _ hr fun q hq => hsub q (hl₀ q hq)) hsub F₁ N₁) (fun f s₂ q => ?_) fun _ _ e => e
    have up : RoEnd h₀ env.locals x m₀ nx (pz a = false) s Q .next s₂ → RoEnd h₀ env.locals x m₀ nx (∀ (j : Nat) b, j < i + 1 → as[j]? = some b → pz b = false) s Q .next s₂ := by
      rintro ⟨hz, r⟩
      refine ⟨fun j b hj hb => ?_, r⟩
      by_cases e : j = i
      · subst e
        rw [ha] at hb
        exact (Option.some.inj hb) ▸ hz
      · exact hP j b (by omega) hb
    cases f with
    | ret v => exact q
    | brk => exact q
    | next => exact up q
    | cont => exact up q
  · intro v' h tk hP F₁ N₁
    refine done v' h tk (fun a ha => ?_) F₁ N₁
    obtain ⟨j, hj, rfl⟩ := List.mem_iff_getElem.mp ha
    exact hP j _ (by rw [hA.len]; exact hj) (List.getElem?_eq_getElem hj)
/-- unlike classes, unlike places -/
theorem ne_cls {h₀ h : Heap} {L a b : Addr} {o o' : Obj} {news : Led} (N : News h₀ L h news) (ha : (a, o) ∈ news) (hb : (b, o') ∈ news) (hc : o.cls ≠ o'.cls) : a ≠ b := fun e => by
  subst e
  have h1 := (N _ ha).1
  have h2 := (N _ hb).1
  have e : o = o' := Option.some.inj (h1.symm.trans h2)
  exact hc (by rw [e])
/-- the first row of the sorted ones that is above, is the least of all that are above -/
theorem least_of {n : Nat} {g : Nat → By × Int} {p : List Nat} {pz : Nat → Bool} (hp : p.Perm (List.range n)) (hw : (p.map g).Pairwise (fun a b => rowLt a b = true)) {i a : Nat} (ha : p[i]? = some a) (hb : ∀ (j : Nat) b, j < i → p[j]? = some b → pz b = false) :
    a < n ∧ ∀ b, b < n → pz b = true → b = a ∨ rowLt (g a) (g b) = true := by
  refine ⟨List.mem_range.mp (hp.mem_iff.mp (List.mem_of_getElem? ha)), fun b hbn hz => ?_⟩
  have hm : b ∈ p := hp.mem_iff.mpr (List.mem_range.mpr hbn)
  obtain ⟨j, hj, rfl⟩ := List.mem_iff_getElem.mp hm
  have hi : i < p.length := (List.getElem?_eq_some_iff.mp ha).1
  have hai : p[i] = a := (List.getElem?_eq_some_iff.mp ha).2
  rcases Nat.lt_trichotomy j i with h | h | h
  · exact absurd (hb j _ h (List.getElem?_eq_getElem hj)) (by rw [hz]; decide)
  · subst h; exact .inl hai
  · right
    rw [List.pairwise_map] at hw
    have := List.pairwise_iff_getElem.mp hw i j hi hj h
    rw [hai] at this
    exact this
/-- text in a tuple of two texts -/
theorem notIn_two {a : Addr} {x p q : Str} {t t1 t2 : Tok} {n : Nat} {Q : Value → Shared → Prop} (ha : s.heap.get? a = some (⟨.type "tuple", none, .seq #[.str p t1, .str q t2] n, #[]⟩ : Obj)) (h : Q (.bool (!(decide (p = x) || decide (q = x)))) s) :
    wpAny (model prog w) A (compareOp .NotIn (.str x t) (.ref a)) Q E s := by
  refine SeqAt.notIn_tupleAt (fun v => match v with | .str y _ => decide (y = x) | _ => false) ⟨_, ha, rfl, n, rfl⟩ (fun y hy => ?_) (by simpa using h)
  have hy' : y = .str p t1 ∨ y = .str q t2 := by simpa using hy
  rcases hy' with rfl | rfl
  · exact eqAt_str _ _ _ _ _ _
  · exact eqAt_str _ _ _ _ _ _
end

end
section

theorem vars_at2 {m m₀ : Vars} {x yv : Str} {v : Option Value} (hm : ∀ z, z ≠ x → z ≠ yv → m z = m₀ z) : (fun y => if y = x then v else m y) = (fun y => if y = x then v else if y = yv then m yv else m₀ y) := by
  funext z
  by_cases e : z = x
  · rw [if_pos e, if_pos e]
  · rw [if_neg e, if_neg e]
    by_cases f : z = yv
    · rw [if_pos f, f]
    · rw [if_neg f, hm z e f]
theorem vars_out2 {m m₀ : Vars} {x yv : Str} (hm : ∀ z, z ≠ x → z ≠ yv → m z = m₀ z) : m = (fun y => if y = x then m x else if y = yv then m yv else m₀ y) := by
  funext z
  by_cases e : z = x
  · rw [if_pos e, e]
  · rw [if_neg e]
    by_cases f : z = yv
    · rw [if_pos f, f]
    · rw [if_neg f, hm z e f]
/-- RoEnd, and the variable yv may change too -/
def RoEnd2 (h₀ : Heap) (L : Addr) (x yv : Str) (m₀ : Vars) (nx : Led) (P : Prop) (s : Shared) (Q : Flow → Shared → Prop) (f : Flow) (s₂ : Shared) : Prop :=
  match f with
  | .ret v => Q (.ret v) s₂
  | .brk => Q .next s₂
  | _ => P ∧ ∃ h' tk' m', s₂ = { s with heap := h', toks := tk' } ∧ Fr h₀ L h' m' ∧ (∀ z, z ≠ x → z ≠ yv → m' z = m₀ z) ∧ News h₀ L h' nx
section
variable {prog : Program} {w : World} {A : Around} {E : Value → Shared → Prop} {s : Shared} {env : Env} {h₀ : Heap} {x yv : Str} {body : List Stmt} {Q : Flow → Shared → Prop}
theorem RoEnd2.next {h₀ : Heap} {L : Addr} {m₀ m' : Vars} {nx : Led} {P : Prop} {s : Shared} {h' : Heap} {tk' : Nat} (F : Fr h₀ L h' m') (N : News h₀ L h' nx) (hp : P) (hm : ∀ z, z ≠ x → z ≠ yv → m' z = m₀ z) :
    RoEnd2 h₀ L x yv m₀ nx P s Q .next { s with heap := h', toks := tk' } := ⟨hp, h', tk', m', rfl, F, hm, N⟩
theorem RoEnd2.ret {h₀ : Heap} {L : Addr} {m₀ : Vars} {nx : Led} {P : Prop} {s s₂ : Shared} {v : Value} (h : Q (.ret v) s₂) : RoEnd2 h₀ L x yv m₀ nx P s Q (.ret v) s₂ := h
theorem list_ro2 {l : Addr} {vs : List Value} {nn : Nat} {m₀ : Vars} {news : Led} {yv : Str} (P : Nat → Prop)
    (hh : A.handled = none) (hl : (l, listOf vs.toArray nn) ∈ news) (F : Fr h₀ env.locals s.heap m₀) (N : News h₀ env.locals s.heap news) (h0 : P 0)
    (turn : ∀ (i : Nat) v h tk nx py, vs[i]? = some v → P i → (∀ p ∈ news, p ∈ nx) → Fr h₀ env.locals h (fun y => if y = x then some v else if y = yv then py else m₀ y) → News h₀ env.locals h nx →
      wpAny (model prog w) A (execs body env) (RoEnd2 h₀ env.locals x yv m₀ nx (P (i + 1)) s Q) E { s with heap := h, toks := tk })
    (done : ∀ v' h tk py, P vs.length → Fr h₀ env.locals h (fun y => if y = x then v' else if y = yv then py else m₀ y) → News h₀ env.locals h news → Q .next { s with heap := h, toks := tk }) :
    wpAny (model prog w) A (pyIter (.ref l)) (fun it s₂ => LoopAtV prog w A h₀ env x body Q E it s₂) E s := by
  refine kdl_iter (news := news) (fun i m nx => nx = news ∧ P i ∧ ∀ z, z ≠ x → z ≠ yv → m z = m₀ z) hh hl F N ⟨rfl, h0, fun _ _ _ => rfl⟩ ?_ ?_
  · rintro i v m₁ nx h tk own hv hoff hl' ⟨rfl, hp, hm⟩ F₁ N₁
    rw [vars_at2 hm] at F₁
    refine wpAny_mono (turn i v h tk (nx ++ own) _ hv hp (fun p hp => List.mem_append_left _ hp) F₁ N₁) (fun f s₂ q => ?_) fun _ _ e => e
    have up : RoEnd2 h₀ env.locals x yv m₀ (nx ++ own) (P (i + 1)) s Q .next s₂ → InvEndG h₀ env.locals (fun m nx' => (l, listOf vs.toArray nn) ∈ nx' ∧ nx' = nx ∧ P (i + 1) ∧ ∀ z, z ≠ x → z ≠ yv → m z = m₀ z) own { s with heap := h, toks := tk } s₂ := by
      rintro ⟨hp', h', tk', m', rfl, F', hm', N'⟩
      exact ⟨h', tk', m', nx ++ own, nx, rfl, F', N', fun p hp => List.mem_append_left _ hp, fun p hp => List.mem_append_right _ hp, hoff, hl', rfl, hp', hm'⟩
    cases f with
    | ret v => exact q
    | brk => exact q
    | next => exact up q
    | cont => exact up q
  · rintro m₁ nx h tk ⟨rfl, hp, hm⟩ F₁ N₁
    rw [vars_out2 hm] at F₁
    exact done _ h tk _ hp F₁ N₁
theorem list_search2 {α : Type} {l : Addr} {vs : List Value} {as : List α} {nn : Nat} {m₀ : Vars} {news l₀ : Led} {R : Led → Value → α → Prop} (yv : Str) (hh : A.handled = none) (F : Fr h₀ env.locals s.heap m₀) (N : News h₀ env.locals s.heap news) (hl : (l, listOf vs.toArray nn) ∈ news)
    (hR : ∀ l l' v a, R l v a → (∀ q ∈ l, q ∈ l') → R l' v a) (hA : All2 (R l₀) vs as) (hl₀ : ∀ q ∈ l₀, q ∈ news) (pz : α → Bool)
    (turn : ∀ (i : Nat) a v h tk nx py, as[i]? = some a → (∀ (j : Nat) b, j < i → as[j]? = some b → pz b = false) → R nx v a → (∀ p ∈ news, p ∈ nx) → Fr h₀ env.locals h (fun y => if y = x then some v else if y = yv then py else m₀ y) → News h₀ env.locals h nx →
      wpAny (model prog w) A (execs body env) (RoEnd2 h₀ env.locals x yv m₀ nx (pz a = false) s Q) E { s with heap := h, toks := tk })
    (done : ∀ v' h tk py, (∀ a ∈ as, pz a = false) → Fr h₀ env.locals h (fun y => if y = x then v' else if y = yv then py else m₀ y) → News h₀ env.locals h news → Q .next { s with heap := h, toks := tk }) :
    wpAny (model prog w) A (pyIter (.ref l)) (fun it s₂ => LoopAtV prog w A h₀ env x body Q E it s₂) E s := by
  refine list_ro2 (yv := yv) (fun i => ∀ (j : Nat) b, j < i → as[j]? = some b → pz b = false) hh hl F N (fun j b hj _ => absurd hj (Nat.not_lt_zero _)) ?_ ?_
  · intro i v h tk nx py hv hP hsub F₁ N₁
    obtain ⟨a, ha, hr⟩ := hA.get' hv
    refine wpAny_mono (turn i a v h tk nx py ha hP (hR _ _ _ _ hr fun q hq => hsub q (hl₀ q hq)) hsub F₁ N₁) (fun f s₂ q => ?_) fun _ _ e => e
    have up : RoEnd2 h₀ env.locals x yv m₀ nx (pz a = false) s Q .next s₂ → RoEnd2 h₀ env.locals x yv m₀ nx (∀ (j : Nat) b, j < i + 1 → as[j]? = some b → pz b = false) s Q .next s₂ := by
      rintro ⟨hz, r⟩
      refine ⟨fun j b hj hb => ?_, r⟩
      by_cases e : j = i
      · subst e
        rw [ha] at hb
        exact (Option.some.inj hb) ▸ hz
      · exact hP j b (by omega) hb
    cases f with
    | ret v => exact q
    | brk => exact q
    | next => exact up q
    | cont => exact up q
  · intro v' h tk py hP F₁ N₁
    refine done v' h tk py (fun a ha => ?_) F₁ N₁
    obtain ⟨j, hj, rfl⟩ := List.mem_iff_getElem.mp ha
    exact hP j _ (by rw [hA.len]; exact hj) (List.getElem?_eq_getElem hj)
end

end
section

section
variable {prog : Program} {w : World} {A : Around} {E : Value → Shared → Prop} {s : Shared} {h₀ : Heap} {L : Addr} {m : Str → Option Value}
end

end
section

open PyProof.Rows.LCg
theorem off3_of {I C D : Addr} : ∀ {l : Led}, (∀ p ∈ l, p.1 ≠ I ∧ p.1 ≠ C ∧ p.1 ≠ D) → Off3 I C D l
  | [], _ => trivial
  | p :: r, h => ⟨h p List.mem_cons_self, off3_of fun q hq => h q (List.mem_cons_of_mem _ hq)⟩
theorem news_mv {h₀ : Heap} {L : Addr} {h : Heap} {pre tl r : Led} {b : Addr × Obj} (N : News h₀ L h (pre ++ (tl ++ (b :: r)))) : News h₀ L h ((pre ++ [b]) ++ (tl ++ r)) := fun p hp => N p (by
  simp only [List.mem_append, List.mem_cons, List.not_mem_nil, or_false] at hp ⊢
  rcases hp with (h | h) | h | h
  · exact .inl h
  · exact .inr (.inr (.inl h))
  · exact .inr (.inl h)
  · exact .inr (.inr (.inr h)))
theorem news_sw {h₀ : Heap} {L : Addr} {h : Heap} {pre tl r : Led} (N : News h₀ L h (pre ++ (tl ++ r))) : News h₀ L h (pre ++ (r ++ tl)) := fun p hp => N p (by
  simp only [List.mem_append] at hp ⊢
  rcases hp with h | h | h
  · exact .inl h
  · exact .inr (.inr h)
  · exact .inr (.inl h))
theorem mem_sw {p : Addr × Obj} {l r : Led} (h : p ∈ l ++ r) : p ∈ r ++ l := List.mem_append.mpr (List.mem_append.mp h).symm
theorem off1_app {D : Addr} {r : Led} : ∀ {tl : Led}, Off1 D (tl ++ r) → (∀ p ∈ tl, p.1 ≠ D) ∧ Off1 D r
  | [], h => ⟨(fun _ h => nomatch h), h⟩
  | _ :: _, h => ⟨List.forall_mem_cons.mpr ⟨h.1, (off1_app h.2).1⟩, (off1_app h.2).2⟩
/-- RoEnd2, with a word over the worth of yv -/
def RoEndP (h₀ : Heap) (L : Addr) (x yv : Str) (m₀ : Vars) (nx : Led) (P : Option Value → Prop) (s : Shared) (Q : Flow → Shared → Prop) (f : Flow) (s₂ : Shared) : Prop :=
  match f with
  | .ret v => Q (.ret v) s₂
  | .brk => Q .next s₂
  | _ => ∃ h' tk' m', P (m' yv) ∧ s₂ = { s with heap := h', toks := tk' } ∧ Fr h₀ L h' m' ∧ (∀ z, z ≠ x → z ≠ yv → m' z = m₀ z) ∧ News h₀ L h' nx
section
variable {prog : Program} {w : World} {A : Around} {E : Value → Shared → Prop} {s : Shared} {env : Env} {h₀ : Heap} {x yv : Str} {body : List Stmt} {Q : Flow → Shared → Prop}
theorem RoEndP.next {h₀ : Heap} {L : Addr} {m₀ m' : Vars} {nx : Led} {P : Option Value → Prop} {s : Shared} {h' : Heap} {tk' : Nat} (F : Fr h₀ L h' m') (N : News h₀ L h' nx) (hp : P (m' yv)) (hm : ∀ z, z ≠ x → z ≠ yv → m' z = m₀ z) :
    RoEndP h₀ L x yv m₀ nx P s Q .next { s with heap := h', toks := tk' } := ⟨h', tk', m', hp, rfl, F, hm, N⟩
theorem RoEndP.ret {h₀ : Heap} {L : Addr} {m₀ : Vars} {nx : Led} {P : Option Value → Prop} {s s₂ : Shared} {v : Value} (h : Q (.ret v) s₂) : RoEndP h₀ L x yv m₀ nx P s Q (.ret v) s₂ := h
theorem list_roP {l : Addr} {vs : List Value} {nn : Nat} {m₀ : Vars} {news : Led} {yv : Str} (P : Nat → Option Value → Prop)
    (hh : A.handled = none) (hl : (l, listOf vs.toArray nn) ∈ news) (F : Fr h₀ env.locals s.heap m₀) (N : News h₀ env.locals s.heap news) (h0 : P 0 (m₀ yv))
    (turn : ∀ (i : Nat) v h tk nx py, vs[i]? = some v → P i py → (∀ p ∈ news, p ∈ nx) → Fr h₀ env.locals h (fun y => if y = x then some v else if y = yv then py else m₀ y) → News h₀ env.locals h nx →
      wpAny (model prog w) A (execs body env) (RoEndP h₀ env.locals x yv m₀ nx (P (i + 1)) s Q) E { s with heap := h, toks := tk })
    (done : ∀ v' h tk py, P vs.length py → Fr h₀ env.locals h (fun y => if y = x then v' else if y = yv then py else m₀ y) → News h₀ env.locals h news → Q .next { s with heap := h, toks := tk }) :
    wpAny (model prog w) A (pyIter (.ref l)) (fun it s₂ => LoopAtV prog w A h₀ env x body Q E it s₂) E s := by
  refine kdl_iter (news := news) (fun i m nx => nx = news ∧ P i (m yv) ∧ ∀ z, z ≠ x → z ≠ yv → m z = m₀ z) hh hl F N ⟨rfl, h0, fun _ _ _ => rfl⟩ ?_ ?_
  · rintro i v m₁ nx h tk own hv hoff hl' ⟨rfl, hp, hm⟩ F₁ N₁
    rw [vars_at2 hm] at F₁
    refine wpAny_mono (turn i v h tk (nx ++ own) _ hv hp (fun p hp => List.mem_append_left _ hp) F₁ N₁) (fun f s₂ q => ?_) fun _ _ e => e
    have up : RoEndP h₀ env.locals x yv m₀ (nx ++ own) (P (i + 1)) s Q .next s₂ → InvEndG h₀ env.locals (fun m nx' => (l, listOf vs.toArray nn) ∈ nx' ∧ nx' = nx ∧ P (i + 1) (m yv) ∧ ∀ z, z ≠ x → z ≠ yv → m z = m₀ z) own { s with heap := h, toks := tk } s₂ := by
      rintro ⟨h', tk', m', hp', rfl, F', hm', N'⟩
      exact ⟨h', tk', m', nx ++ own, nx, rfl, F', N', fun p hp => List.mem_append_left _ hp, fun p hp => List.mem_append_right _ hp, hoff, hl', rfl, hp', hm'⟩
    cases f with
    | ret v => exact q
    | brk => exact q
    | next => exact up q
    | cont => exact up q
  · rintro m₁ nx h tk ⟨rfl, hp, hm⟩ F₁ N₁
    rw [vars_out2 hm] at F₁
    exact done _ h tk _ hp F₁ N₁
end
section
variable {prog : Program} {w : World} {A : Around} {s : Shared} {h₀ : Heap} {L : Addr} {m : Vars} {env : Env} {elt ct : Expr} {x : Str} {scope : Scope} {cl : List (Str × Addr)} {S : Led → Prop} {P : Nat → Value → Prop} {Fin : List Value → Led → Prop} {n : Nat}
/-- a turn of a comprehension that makes objects of its own -/
def CbEnd (h₀ : Heap) (L : Addr) (m : Vars) (nx : Led) (s : Shared) (c : Value) (R : Led → Value → Prop) (y : Value) (s₂ : Shared) : Prop :=
  ∃ h' tk' own, s₂ = { s with heap := h', toks := tk' } ∧ Fr h₀ L h' m ∧ News h₀ L h' (own ++ nx) ∧ (∀ q ∈ own, q.2.cls = c) ∧ (∀ q ∈ own, ∀ p ∈ nx, p.1 ≠ q.1) ∧ R own y
theorem comp_build {news : Led} {c : Value} (R : Led → Value → Nat → Prop) (hR : ∀ l l' v i, R l v i → (∀ p ∈ l, p ∈ l') → R l' v i) (hS : ∀ nw, (∀ p ∈ news, p ∈ nw) → S nw)
    (fin : ∀ ys tl, All2 (R tl) ys (List.range n) → (∀ q ∈ tl, q.2.cls = c) → (∀ q ∈ tl, ∀ p ∈ news, p.1 ≠ q.1) → Fin ys (tl ++ news))
    (turn : ∀ i v nx C oC m₂ h tk (E' : Value → Shared → Prop), i < n → P i v → NsObj oC m₂ → m₂ x = some v → (C, oC) ∈ nx → (∀ p ∈ news, p ∈ nx) → Fr h₀ L h m → News h₀ L h nx →
      wpAny (model prog w) A (eval elt (compEnvC scope cl C env)) (CbEnd h₀ L m nx s c (fun l y => R l y i)) E' { s with heap := h, toks := tk }) :
    CompRest prog w A h₀ L m env elt x scope cl s S P Fin n 0 [] news := by
  refine comp_G (fun i ys nw => ∃ tl, nw = tl ++ news ∧ All2 (R tl) ys (List.range i) ∧ (∀ q ∈ tl, q.2.cls = c) ∧ ∀ q ∈ tl, ∀ p ∈ news, p.1 ≠ q.1) (fun ys nw ⟨tl, e, hA, hc, hf⟩ => e ▸ fin ys tl hA hc hf) ?_ n 0 [] news (by omega) ⟨[], rfl, All2.nil, (fun _ h => nomatch h), fun _ h => nomatch h⟩
  rintro i v ys nw I oI C oC D m₂ h tk E' hi hP ⟨tl, rfl, hA, hc, hf⟩ hC hx F N off ne
  refine wpAny_mono (turn i v ((I, oI) :: (C, oC) :: (D, lst ys) :: (tl ++ news)) C oC m₂ h tk E' hi hP hC hx (List.mem_cons_of_mem _ List.mem_cons_self) (fun p hp => List.mem_cons_of_mem _ (List.mem_cons_of_mem _ (List.mem_cons_of_mem _ (List.mem_append_right _ hp)))) F N) (fun y s₂ hq => ?_) fun _ _ e => e
  obtain ⟨h', tk', own, rfl, F', N', hc', hf', hR'⟩ := hq
  have n1 : ∀ q ∈ own, q.1 ≠ I := fun q hq => Ne.symm (hf' q hq (I, oI) List.mem_cons_self)
  have n2 : ∀ q ∈ own, q.1 ≠ C := fun q hq => Ne.symm (hf' q hq (C, oC) (List.mem_cons_of_mem _ List.mem_cons_self))
  have n3 : ∀ q ∈ own, q.1 ≠ D := fun q hq => Ne.symm (hf' q hq (D, lst ys) (List.mem_cons_of_mem _ (List.mem_cons_of_mem _ List.mem_cons_self)))
  have sub : ∀ p ∈ tl ++ news, p ∈ (I, oI) :: (C, oC) :: (D, lst ys) :: (tl ++ news) := fun p hp => List.mem_cons_of_mem _ (List.mem_cons_of_mem _ (List.mem_cons_of_mem _ hp))
  refine ⟨h', tk', (own ++ tl) ++ news, rfl, F', fun p hp => N' p ?_, off3_of fun p hp => ?_, hS _ fun p hp => List.mem_append_right _ hp, own ++ tl, rfl, ?_, ?_, ?_⟩
  · rcases List.mem_cons.mp hp with rfl | hp
    · exact List.mem_append_right _ List.mem_cons_self
    · rcases List.mem_cons.mp hp with rfl | hp
      · exact List.mem_append_right _ (List.mem_cons_of_mem _ List.mem_cons_self)
      · rcases List.mem_cons.mp hp with rfl | hp
        · exact List.mem_append_right _ (List.mem_cons_of_mem _ (List.mem_cons_of_mem _ List.mem_cons_self))
        · rw [List.append_assoc] at hp
          rcases List.mem_append.mp hp with hp | hp
          · exact List.mem_append_left _ hp
          · exact List.mem_append_right _ (sub p hp)
  · rw [List.append_assoc] at hp
    rcases List.mem_append.mp hp with hp | hp
    · exact ⟨n1 p hp, n2 p hp, n3 p hp⟩
    · exact Off3.mem off p hp
  · rw [List.range_succ]
    exact (hA.mono fun v i r => hR _ _ _ _ r fun p hp => List.mem_append_right _ hp).append (All2.one (hR _ _ _ _ hR' fun p hp => List.mem_append_left _ hp))
  · intro q hq
    rcases List.mem_append.mp hq with hq | hq
    · exact hc' q hq
    · exact hc q hq
  · intro q hq p hp
    rcases List.mem_append.mp hq with hq | hq
    · exact hf' q hq p (sub p (List.mem_append_right _ hp))
    · exact hf q hq p hp
end

end
section

/-- two sides share no place -/
def Apart (mu ro : Led) : Prop := ∀ p ∈ mu, ∀ q ∈ ro, q.1 ≠ p.1
/-- a turn's end, of a loop that changes the part mu of the ledger and the variables yv, zv -/
def MEnd (h₀ : Heap) (L : Addr) (x yv zv : Str) (m₀ : Vars) (ro : Led) (J : Option Value → Option Value → Led → Prop) (s : Shared) (Q : Flow → Shared → Prop) (f : Flow) (s₂ : Shared) : Prop :=
  match f with
  | .ret v => Q (.ret v) s₂
  | .brk => Q .next s₂
  | _ => ∃ h' tk' m' mu, s₂ = { s with heap := h', toks := tk' } ∧ Fr h₀ L h' m' ∧ (∀ z, z ≠ x → z ≠ yv → z ≠ zv → m' z = m₀ z) ∧ News h₀ L h' (mu ++ ro) ∧ Apart mu ro ∧ J (m' yv) (m' zv) mu
section
variable {prog : Program} {w : World} {A : Around} {E : Value → Shared → Prop} {s : Shared} {env : Env} {h₀ : Heap} {x yv zv : Str} {body : List Stmt} {Q : Flow → Shared → Prop}
theorem apart_own {mu news own : Led} (hp : Apart mu news) (hoff : OwnOff own ((mu ++ news).map (·.1))) : Apart mu (news ++ own) := fun p hp' q hq => by
  rcases List.mem_append.mp hq with hq | hq
  · exact hp p hp' q hq
  · exact hoff q hq _ (List.mem_map.mpr ⟨p, List.mem_append_left _ hp', rfl⟩)
end

end
section

open PyProof.Rows.LCg
/-- the tests of a comprehension -/
def enTests (ifs : List Expr) (env : Env) : Sem Bool := forIn ifs true fun c r => if r = true then do let ok ← isTrue c env (eval c env); pure (ForInStep.yield ok) else pure (ForInStep.yield r)
section
variable {prog : Program} {w : World} {A : Around} {E : Value → Shared → Prop} {s : Shared}
theorem enTests_nil {env : Env} {Q : Bool → Shared → Prop} (h : Q true s) : wpAny (model prog w) A (enTests [] env) Q E s := wpAny_tests_nil h
theorem en_loop {elt target iter : Expr} {ifs : List Expr} {scope : Scope} {pos : Pos} {it acc : Value} {env : Env} {R : Result → Shared → Prop} (I : Nat → Shared → Prop)
    (turn : ∀ n s, I n s → wpAny (model prog w) A (pyNext it) (fun r s₁ => match r with
      | none => R (.ok .next) s₁
      | some v => wpAny (model prog w) A (letOwnedTupleGo target it v) (fun _ s₀ => wpAny (model prog w) A (assign target env v) (fun _ s₂ =>
          wpAny (model prog w) A (enTests ifs env) (fun ok s₃ => if ok = true then wpAny (model prog w) A (eval elt env) (fun x s₄ =>
            wpAny (model prog w) A (call (.builtin "list.append") [acc, x]) (fun _ s₅ => ∃ m, m < n ∧ I m s₅) (notedBy (model prog w) A env fun e s' => R (.error e) s') s₄) (notedBy (model prog w) A env fun e s' => R (.error e) s') s₃
            else ∃ m, m < n ∧ I m s₃) (notedBy (model prog w) A env fun e s' => R (.error e) s') s₂)
          (notedBy (model prog w) A env fun e s' => R (.error e) s') s₀) (notedBy (model prog w) A env fun e s' => R (.error e) s') s₁) (notedBy (model prog w) A env fun e s' => R (.error e) s') s)
    (n : Nat) (h : I n s) : codeAny (model prog w) A (.compLoop (.ListComp elt [⟨target, iter, ifs, 0⟩] scope pos) 0 it acc env) R s := by
  refine codeAny_loop rfl I (fun n s hI => ?_) n h
  show wpAny _ A ((compTurn (.ListComp elt [⟨target, iter, ifs, 0⟩] scope pos) 0 it acc env).onRaise (fun x => do noteFrame x env; theTreesLotGoes x)) _ _ s
  refine wpAny_noted ?_
  rw [compTurn_list]
  refine wpAny_bind (wpAny_standAt (wpAny_bind (wpAny_mono (turn n s hI) (fun r s₁ h₁ => ?_) fun _ _ h' => h')))
  cases r with
  | none => exact wpAny_pure h₁
  | some v =>
    refine wpAny_bind (wpAny_mono h₁ (fun _ s₀ h₀' => ?_) fun _ _ h' => h')
    refine wpAny_bind (wpAny_mono h₀' (fun _ s₂ h₂ => ?_) fun _ _ h' => h')
    refine wpAny_bind (wpAny_mono h₂ (fun okb s₃ h₃ => ?_) fun _ _ h' => h')
    cases okb with
    | false => exact wpAny_pure ⟨rfl, h₃⟩
    | true => exact wpAny_bind (wpAny_bind (wpAny_mono h₃ (fun x s₄ h₄ => wpAny_bind (wpAny_mono h₄ (fun _ s₅ h₅ => wpAny_pure (wpAny_pure ⟨rfl, h₅⟩)) fun _ _ h' => h')) fun _ _ h' => h'))
end
/-- a test's end -/
def EtEnd (h₀ : Heap) (L : Addr) (m : Vars) (nx : Led) (s : Shared) (no : Prop) (yes : Shared → Prop) (ok : Bool) (s₂ : Shared) : Prop :=
  if ok = true then yes s₂ else ∃ h' tk', s₂ = { s with heap := h', toks := tk' } ∧ Fr h₀ L h' m ∧ News h₀ L h' nx ∧ no
section
variable {prog : Program} {w : World} {A : Around} {E : Value → Shared → Prop} {s : Shared} {h₀ : Heap} {L : Addr} {m : Vars} {env : Env}
theorem EtEnd.yes {nx : Led} {s' : Shared} {no : Prop} {yes : Shared → Prop} {s₂ : Shared} (h : yes s₂) : EtEnd h₀ L m nx s' no yes true s₂ := by
  unfold EtEnd; rw [if_pos rfl]; exact h
/-- what runs once the iterator stands -/
def EnBlk (prog : Program) (w : World) (A : Around) (E : Value → Shared → Prop) (env : Env) (elt : Expr) (target iter : Expr) (ifs : List Expr) (scope : Scope) (cl : List (Str × Addr)) (pos : Pos) (RR : Value → Addr → Result → Shared → Prop) (it : Value) (s₂ : Shared) : Prop :=
  wpAny (model prog w) A (newList []) (fun acc s₃ => wpAny (model prog w) A (newFunctionEnv scope env.globals cl [] env.qual none .none (some env)) (fun cenv s₄ =>
      codeAny (model prog w) A (.compStart (.ListComp elt [⟨target, iter, ifs, 0⟩] scope pos) 0 it acc { cenv with scope := relabel scope env }) (RR acc cenv.locals) s₄) E s₃) E s₂
def EnSrc (prog : Program) (w : World) (A : Around) (E : Value → Shared → Prop) (env : Env) (elt : Expr) (target iter : Expr) (ifs : List Expr) (scope : Scope) (cl : List (Str × Addr)) (pos : Pos) (RR : Shared → Value → Addr → Result → Shared → Prop) (xv : Value) (s₁ : Shared) : Prop :=
  wpAny (model prog w) A (pyIter xv) (fun it s₂ => EnBlk prog w A E env elt target iter ifs scope cl pos (RR s₁) it s₂) E s₁
theorem en_block {elt iter : Expr} {a b : Str} {pa pb tp : Pos} {kk : Nat} {ifs : List Expr} {scope : Scope} {cl : List (Str × Addr)} {pos : Pos} {e it l : Addr} {nn : Nat} {vs : List Value} {news : Led} {old : Value} {c : Value}
    (R : Led → Value → Nat → Prop) (hR : ∀ l l' v i, R l v i → (∀ p ∈ l, p ∈ l') → R l' v i) (pz : Nat → Bool) {RR : Value → Addr → Result → Shared → Prop}
    (hh : A.handled = none) (he : IsEnum s.heap e it 0 old) (hit : s.heap.IsListIter it l 0) (hl : (l, listOf vs.toArray nn) ∈ news) (hsz : vs.length ≤ sizeLine)
    (hei : e ≠ it) (hcell : ∀ y ∈ scope.names, y.2 ≠ .cell) (hkind : scope.kind = .function) (hxa : scope.names.lookup a = some .local) (hxb : scope.names.lookup b = some .local) (hab : ¬ a = b)
    (F : Fr h₀ L s.heap m) (N : News h₀ L s.heap news) (hLe : L ≠ e) (hLi : L ≠ it) (he₀ : h₀.get? e = none) (hi₀ : h₀.get? it = none) (offe : ∀ p ∈ news, p.1 ≠ e) (offi : ∀ p ∈ news, p.1 ≠ it)
    (turn : ∀ (i : Nat) t v nx C oC m₂ h tk (E' : Value → Shared → Prop), vs[i]? = some v → NsObj oC m₂ → m₂ a = some (.int (i : Int) t) → m₂ b = some v → (C, oC) ∈ nx → (∀ p ∈ news, p ∈ nx) → Fr h₀ L h m → News h₀ L h nx →
      wpAny (model prog w) A (enTests ifs (compEnvC scope cl C env)) (EtEnd h₀ L m nx s (pz i = false) (fun s₃ => pz i = true ∧ wpAny (model prog w) A (eval elt (compEnvC scope cl C env)) (CbEnd h₀ L m nx s c (fun l y => R l y i)) E' s₃)) E' { s with heap := h, toks := tk })
    (hRR : ∀ D C h tk m' ys tl, Fr h₀ L h m → News h₀ L h ((D, lst ys) :: (tl ++ news)) → Off1 D (tl ++ news) → h.Ns C m' → h₀.get? C = none → h₀.get? D = none → C ≠ L → D ≠ L → C ≠ D → (∀ p ∈ tl ++ news, p.1 ≠ C) →
      All2 (R tl) ys ((List.range vs.length).filter pz) → (∀ q ∈ tl, q.2.cls = c) → (∀ q ∈ tl, ∀ p ∈ news, p.1 ≠ q.1) → RR (.ref D) C (.ok .next) { s with heap := h, toks := tk }) :
    EnBlk prog w A E env elt (.Tuple [.Name a pa, .Name b pb] kk tp) iter ifs scope cl pos RR (.ref e) s := by
  unfold EnBlk
  refine wpAny_newObj_type (wpAny_newFunctionEnv hcell (by intro y hy; simp at hy) (fun h₁ hns₁ hsb₁ => ?_) hkind)
  dsimp only at hns₁ hsb₁ ⊢
  generalize hH2 : s.heap.push { cls := .type "list", dict := none, data := .seq ([] : List Value).toArray } = H2 at hns₁ hsb₁ ⊢
  have hC : H2.objs.size = s.heap.objs.size + 1 := by rw [← hH2, Heap.size_push]
  have hDC : s.heap.objs.size ≠ H2.objs.size := by rw [hC]; exact Nat.ne_of_lt (Nat.lt_succ_self _)
  have below : ∀ b, b < s.heap.objs.size → b ≠ H2.objs.size ∧ b ≠ s.heap.objs.size := fun b hb => ⟨by rw [hC]; exact Nat.ne_of_lt (Nat.lt_succ_of_lt hb), Nat.ne_of_lt hb⟩
  have helt : e < s.heap.objs.size := Heap.lt_size he
  have hilt : it < s.heap.objs.size := by obtain ⟨_, x, _⟩ := hit; exact Heap.lt_size x
  have old' : ∀ b o, s.heap.get? b = some o → h₁.get? b = some o := fun b o e => hsb₁.extBut b o (below b (Heap.lt_size e)).1 (Heap.get?_push_of_some _ (hH2 ▸ Heap.get?_push_of_some _ e))
  have hacc : h₁.get? s.heap.objs.size = some (lst []) := hsb₁.extBut _ _ hDC (Heap.get?_push_of_some _ (hH2 ▸ Heap.get?_push_size _ rfl))
  have fresh : ∀ a, s.heap.objs.size ≤ a → s.heap.get? a = none := fun a ha => by
    cases e : s.heap.get? a with
    | none => rfl
    | some o' => exact absurd (Heap.lt_size e) (Nat.not_lt.mpr ha)
  have fresh₀ : ∀ a, s.heap.objs.size ≤ a → h₀.get? a = none := fun a ha => by
    cases e : h₀.get? a with
    | none => rfl
    | some o' => have := F.keep a o' e; rw [fresh a ha] at this; cases this
  have hD₀ : h₀.get? s.heap.objs.size = none := fresh₀ _ (Nat.le_refl _)
  have hC₀ : h₀.get? H2.objs.size = none := fresh₀ _ (by rw [hC]; exact Nat.le_succ _)
  have hLlt : L < s.heap.objs.size := F.ns.lt
  have hDL : s.heap.objs.size ≠ L := Ne.symm (below L hLlt).2
  have hCL : H2.objs.size ≠ L := Ne.symm (below L hLlt).1
  have hCe : e ≠ H2.objs.size := (below e helt).1
  have hDe : e ≠ s.heap.objs.size := (below e helt).2
  have hCi : it ≠ H2.objs.size := (below it hilt).1
  have hDi : it ≠ s.heap.objs.size := (below it hilt).2
  have hle : l ≠ e := offe _ hl
  have hli : l ≠ it := offi _ hl
  have W := WalksT.enumerate (prog := prog) (w := w) hh e it l hei hle hli vs.toArray
  have loop : ∀ s₃ : Shared, s₃ = { s with heap := h₁, toks := s.toks + ([] : List (Str × Value)).length } →
      codeAny (model prog w) A (.compLoop (.ListComp elt [⟨.Tuple [.Name a pa, .Name b pb] kk tp, iter, ifs, 0⟩] scope pos) 0 (.ref e) (.ref s.heap.objs.size) (compEnvC scope cl H2.objs.size env))
        (RR (.ref s.heap.objs.size) H2.objs.size) s₃ := by
    rintro s₃ rfl
    refine en_loop
      (fun k s' => ∃ h' tk i ys m' tl, s' = { s with heap := h', toks := tk } ∧ i ≤ vs.length ∧ k = vs.length + 1 - i ∧ ys.length ≤ i ∧ ((∃ old, IsEnum h' e it i old) ∧ h'.IsListIter it l i) ∧ Fr h₀ L h' m ∧ h'.Ns H2.objs.size m' ∧
        News h₀ L h' ((s.heap.objs.size, lst ys) :: (tl ++ news)) ∧ (∀ p ∈ tl ++ news, p.1 ≠ e ∧ p.1 ≠ it ∧ p.1 ≠ H2.objs.size ∧ p.1 ≠ s.heap.objs.size) ∧ All2 (R tl) ys ((List.range i).filter pz) ∧ (∀ q ∈ tl, q.2.cls = c) ∧ (∀ q ∈ tl, ∀ p ∈ news, p.1 ≠ q.1)) ?_ (vs.length + 1)
      ⟨h₁, _, 0, [], _, [], rfl, Nat.zero_le _, rfl, Nat.le_refl _, ⟨⟨_, old' _ _ he⟩, hit.at fun o x => old' _ _ x⟩, F.keeps old', hns₁, fun p hp => ?_, fun p hp => ⟨offe p hp, offi p hp, (below _ (Heap.lt_size (N p hp).1)).1, (below _ (Heap.lt_size (N p hp).1)).2⟩, All2.nil, (fun _ h => nomatch h), fun _ h => nomatch h⟩
    · rintro k s' ⟨h', tk, i, ys, m', tl, rfl, hi, rfl, hyl, ⟨⟨old1, he'⟩, hit'⟩, F', hn', N', off', hA, hcl, hfr⟩
      have hl' : h'.IsList l vs.toArray := ⟨_, (N' _ (List.mem_cons_of_mem _ (List.mem_append_right _ hl))).1, rfl, nn, rfl⟩
      by_cases hlt : i < vs.length
      · refine W.item i _ _ _ (by simpa using hlt) ⟨⟨_, he'⟩, hit', hl'⟩ fun T vals h₂ tk₂ hPt _ hT hMd hk₂ => ?_
        obtain ⟨t, v, hv, rfl⟩ := hPt
        have hv' : vs[i]? = some v := by simpa using hv
        refine W.go _ _ _ i T _ _ _ hMd fun h₃ hst₃ hk₃ => ?_
        have up₃ : ∀ c o, c ≠ e → c ≠ it → h'.get? c = some o → h₃.get? c = some o := fun c o h1 h2 x => hk₃ c o (by simp [h1, h2]) (hk₂ c o (by simp [h1, h2]) x)
        have hT₃ : h₃.IsTuple T #[.int (i : Int) t, v] := hT.at fun o x => hk₃ T o (W.apart i T _ hMd) x
        refine kcp_assign (env := compEnvC scope cl H2.objs.size env) hh hT₃ (lookup_relabel_local hxa) (lookup_relabel_local hxb) (by simp [compEnvC, relabel, hkind]) (hn'.at' fun o x => up₃ _ o (Ne.symm hCe) (Ne.symm hCi) x) fun h₄ tk₄ hn₄ hs₄ => ?_
        have up : ∀ c o, c ≠ e → c ≠ it → c ≠ H2.objs.size → h'.get? c = some o → h₄.get? c = some o := fun c o h1 h2 h3 x => hs₄ c o h3 (up₃ c o h1 h2 x)
        obtain ⟨⟨old3, he₃⟩, hit₃, _⟩ := hst₃
        have he₄ : IsEnum h₄ e it (i + 1 : Nat) old3 := hs₄ e _ hCe he₃
        have hit₄ : h₄.IsListIter it l (i + 1) := hit₃.at fun o x => hs₄ it o hCi x
        obtain ⟨oe, hoe, hoe'⟩ : ∃ oe : Obj, h₄.get? e = some oe ∧ ∀ h : Heap, h.get? e = some oe → IsEnum h e it (i + 1 : Nat) old3 := ⟨_, he₄, fun _ x => x⟩
        obtain ⟨oi, hoi, hoi2⟩ := hit₄
        have hoi' : ∀ h : Heap, h.get? it = some oi → h.IsListIter it l (i + 1) := fun h x => ⟨oi, x, hoi2⟩
        obtain ⟨oC, heC, hoC⟩ := ns_obj hn₄
        have F₄ : Fr h₀ L h₄ m := ⟨F'.ns.at' fun o x => up _ o hLe hLi (Ne.symm hCL) x, fun c o x => up c o (fun q => by rw [q, he₀] at x; cases x) (fun q => by rw [q, hi₀] at x; cases x) (fun q => by rw [q, hC₀] at x; cases x) (F'.keep c o x), F'.above⟩
        have N₄ : News h₀ L h₄ ((e, oe) :: (it, oi) :: (H2.objs.size, oC) :: (s.heap.objs.size, lst ys) :: (tl ++ news)) := fun q hq => by
          rcases List.mem_cons.mp hq with rfl | hq
          · exact ⟨hoe, Ne.symm hLe, he₀⟩
          · rcases List.mem_cons.mp hq with rfl | hq
            · exact ⟨hoi, Ne.symm hLi, hi₀⟩
            · rcases List.mem_cons.mp hq with rfl | hq
              · exact ⟨heC, hCL, hC₀⟩
              · have z := N' q hq
                refine ⟨up _ _ ?_ ?_ ?_ z.1, z.2⟩
                · rcases List.mem_cons.mp hq with rfl | hq
                  · exact Ne.symm hDe
                  · exact (off' q hq).1
                · rcases List.mem_cons.mp hq with rfl | hq
                  · exact Ne.symm hDi
                  · exact (off' q hq).2.1
                · rcases List.mem_cons.mp hq with rfl | hq
                  · exact hDC
                  · exact (off' q hq).2.2.1
        have fin : ∀ (ys' : List Value) (h₅ : Heap) (tk₅ : Nat) (tl₅ : Led), ys'.length ≤ i + 1 → Fr h₀ L h₅ m → News h₀ L h₅ ((e, oe) :: (it, oi) :: (H2.objs.size, oC) :: (s.heap.objs.size, lst ys') :: (tl₅ ++ news)) → (∀ p ∈ tl₅ ++ news, p.1 ≠ e ∧ p.1 ≠ it ∧ p.1 ≠ H2.objs.size ∧ p.1 ≠ s.heap.objs.size) →
            All2 (R tl₅) ys' ((List.range (i + 1)).filter pz) → (∀ q ∈ tl₅, q.2.cls = c) → (∀ q ∈ tl₅, ∀ p ∈ news, p.1 ≠ q.1) →
            ∃ q', q' < vs.length + 1 - i ∧ (∃ h' tk i ys m' tl, ({ s with heap := h₅, toks := tk₅ } : Shared) = { s with heap := h', toks := tk } ∧ i ≤ vs.length ∧ q' = vs.length + 1 - i ∧ ys.length ≤ i ∧ ((∃ old, IsEnum h' e it i old) ∧ h'.IsListIter it l i) ∧ Fr h₀ L h' m ∧ h'.Ns H2.objs.size m' ∧
        News h₀ L h' ((s.heap.objs.size, lst ys) :: (tl ++ news)) ∧ (∀ p ∈ tl ++ news, p.1 ≠ e ∧ p.1 ≠ it ∧ p.1 ≠ H2.objs.size ∧ p.1 ≠ s.heap.objs.size) ∧ All2 (R tl) ys ((List.range i).filter pz) ∧ (∀ q ∈ tl, q.2.cls = c) ∧ (∀ q ∈ tl, ∀ p ∈ news, p.1 ≠ q.1)) := by
          intro ys' h₅ tk₅ tl₅ hl5 F₅ N₅ off₅ hA₅ hc₅ hf₅
          have ze := (N₅ (e, oe) List.mem_cons_self).1
          have zi := (N₅ (it, oi) (List.mem_cons_of_mem _ List.mem_cons_self)).1
          have zC := (N₅ (H2.objs.size, oC) (List.mem_cons_of_mem _ (List.mem_cons_of_mem _ List.mem_cons_self))).1
          exact ⟨vs.length + 1 - (i + 1), by omega, h₅, tk₅, i + 1, ys', _, tl₅, rfl, hlt, rfl, hl5, ⟨⟨_, hoe' h₅ ze⟩, hoi' h₅ zi⟩, F₅, hoC.ns zC, fun q hq => N₅ q (List.mem_cons_of_mem _ (List.mem_cons_of_mem _ (List.mem_cons_of_mem _ hq))), off₅, hA₅, hc₅, hf₅⟩
        have sub : ∀ p ∈ tl ++ news, p ∈ (e, oe) :: (it, oi) :: (H2.objs.size, oC) :: (s.heap.objs.size, lst ys) :: (tl ++ news) := fun p hp => List.mem_cons_of_mem _ (List.mem_cons_of_mem _ (List.mem_cons_of_mem _ (List.mem_cons_of_mem _ hp)))
        refine wpAny_mono (turn i t v _ H2.objs.size oC _ h₄ _ _ hv' hoC (by simp [hab]) (by simp) (List.mem_cons_of_mem _ (List.mem_cons_of_mem _ List.mem_cons_self)) (fun p hp => sub p (List.mem_append_right _ hp)) F₄ N₄) (fun okb s₅ h₅ => ?_) fun _ _ e => e
        cases okb with
        | false =>
          unfold EtEnd at h₅
          rw [if_neg (by decide)] at h₅
          obtain ⟨h5, tk5, rfl, F5, N5, hno⟩ := h₅
          rw [if_neg (by decide)]
          refine fin ys h5 tk5 tl (Nat.le_succ_of_le hyl) F5 N5 off' ?_ hcl hfr
          rw [List.range_succ, List.filter_append]
          simp only [List.filter_cons, hno, Bool.false_eq_true, if_false, List.filter_nil, List.append_nil]
          exact hA
        | true =>
          unfold EtEnd at h₅
          rw [if_pos rfl] at h₅
          rw [if_pos rfl]
          obtain ⟨hyes, h₅⟩ := h₅
          refine wpAny_mono h₅ (fun y s₆ h₆ => ?_) fun _ _ e => e
          obtain ⟨h6, tk6, own, rfl, F6, N6, hc', hf', hR'⟩ := h₆
          have n1 : ∀ q ∈ own, q.1 ≠ e := fun q hq => Ne.symm (hf' q hq (e, oe) List.mem_cons_self)
          have n2 : ∀ q ∈ own, q.1 ≠ it := fun q hq => Ne.symm (hf' q hq (it, oi) (List.mem_cons_of_mem _ List.mem_cons_self))
          have n3 : ∀ q ∈ own, q.1 ≠ H2.objs.size := fun q hq => Ne.symm (hf' q hq (H2.objs.size, oC) (List.mem_cons_of_mem _ (List.mem_cons_of_mem _ List.mem_cons_self)))
          have n4 : ∀ q ∈ own, q.1 ≠ s.heap.objs.size := fun q hq => Ne.symm (hf' q hq (s.heap.objs.size, lst ys) (List.mem_cons_of_mem _ (List.mem_cons_of_mem _ (List.mem_cons_of_mem _ List.mem_cons_self))))
          have zD := (N6 (s.heap.objs.size, lst ys) (List.mem_append_right _ (List.mem_cons_of_mem _ (List.mem_cons_of_mem _ (List.mem_cons_of_mem _ List.mem_cons_self))))).1
          have off6 : ∀ p ∈ (own ++ tl) ++ news, p.1 ≠ e ∧ p.1 ≠ it ∧ p.1 ≠ H2.objs.size ∧ p.1 ≠ s.heap.objs.size := fun p hp => by
            rw [List.append_assoc] at hp
            rcases List.mem_append.mp hp with hp | hp
            · exact ⟨n1 p hp, n2 p hp, n3 p hp, n4 p hp⟩
            · exact off' p hp
          refine append_at (hsz := by show ys.toArray.size ≤ sizeLine; rw [List.size_toArray]; exact Nat.le_trans hyl (Nat.le_trans hi hsz)) zD fun h₇ hs₇ hD₇ => ?_
          refine fin (ys ++ [y]) h₇ tk6 (own ++ tl) (by rw [List.length_append, List.length_singleton]; omega) (F6.change hs₇ hDL hD₀) (fun p hp => ?_) off6 ?_ ?_ ?_
          · have N7 : ∀ p ∈ (e, oe) :: (it, oi) :: (H2.objs.size, oC) :: ((own ++ tl) ++ news), p.1 ≠ s.heap.objs.size → h₇.get? p.1 = some p.2 ∧ p.1 ≠ L ∧ h₀.get? p.1 = none := fun p hp hne => by
              have : p ∈ own ++ ((e, oe) :: (it, oi) :: (H2.objs.size, oC) :: (s.heap.objs.size, lst ys) :: (tl ++ news)) := by
                simp only [List.mem_cons, List.mem_append] at hp ⊢
                rcases hp with h | h | h | (h | h) | h
                · exact .inr (.inl h)
                · exact .inr (.inr (.inl h))
                · exact .inr (.inr (.inr (.inl h)))
                · exact .inl h
                · exact .inr (.inr (.inr (.inr (.inr (.inl h)))))
                · exact .inr (.inr (.inr (.inr (.inr (.inr h)))))
              have z := N6 p this
              exact ⟨hs₇.extBut _ _ hne z.1, z.2⟩
            rcases List.mem_cons.mp hp with rfl | hp
            · exact N7 _ List.mem_cons_self hDe
            · rcases List.mem_cons.mp hp with rfl | hp
              · exact N7 _ (List.mem_cons_of_mem _ List.mem_cons_self) hDi
              · rcases List.mem_cons.mp hp with rfl | hp
                · exact N7 _ (List.mem_cons_of_mem _ (List.mem_cons_of_mem _ List.mem_cons_self)) (Ne.symm hDC)
                · rcases List.mem_cons.mp hp with rfl | hp
                  · exact ⟨hD₇.trans (congrArg some (lst_snoc ys y)), hDL, hD₀⟩
                  · exact N7 p (List.mem_cons_of_mem _ (List.mem_cons_of_mem _ (List.mem_cons_of_mem _ hp))) (off6 p hp).2.2.2
          · rw [List.range_succ, List.filter_append]
            simp only [List.filter_cons, hyes, if_true, List.filter_nil]
            exact (hA.mono fun v i r => hR _ _ _ _ r fun p hp => List.mem_append_right _ hp).append (All2.one (hR _ _ _ _ hR' fun p hp => List.mem_append_left _ hp))
          · intro q hq
            rcases List.mem_append.mp hq with hq | hq
            · exact hc' q hq
            · exact hcl q hq
          · intro q hq p hp
            rcases List.mem_append.mp hq with hq | hq
            · exact hf' q hq p (sub p (List.mem_append_right _ hp))
            · exact hfr q hq p hp
      · have hin : i = vs.length := Nat.le_antisymm hi (Nat.not_lt.mp hlt)
        subst hin
        refine W.done _ _ _ ⟨⟨_, by simpa using he'⟩, by simpa using hit', hl'⟩ fun h₂ tk₂ hk₂ => ?_
        have up₂ : ∀ c o, c ≠ e → c ≠ it → h'.get? c = some o → h₂.get? c = some o := fun c o h1 h2 x => hk₂ c o (by simp [h1, h2]) x
        refine hRR _ _ h₂ tk₂ _ ys tl ⟨F'.ns.at' fun o x => up₂ _ o hLe hLi x, fun c o x => up₂ c o (fun q => by rw [q, he₀] at x; cases x) (fun q => by rw [q, hi₀] at x; cases x) (F'.keep c o x), F'.above⟩ (fun p hp => ?_) ?_ (hn'.at' fun o x => up₂ _ o (Ne.symm hCe) (Ne.symm hCi) x) hC₀ hD₀ hCL hDL (Ne.symm hDC) (fun p hp => (off' p hp).2.2.1) hA hcl hfr
        · have z := N' p hp
          refine ⟨up₂ _ _ ?_ ?_ z.1, z.2⟩
          · rcases List.mem_cons.mp hp with rfl | hp
            · exact Ne.symm hDe
            · exact (off' p hp).1
          · rcases List.mem_cons.mp hp with rfl | hp
            · exact Ne.symm hDi
            · exact (off' p hp).2.1
        · have : ∀ l' : Led, (∀ p ∈ l', p.1 ≠ s.heap.objs.size) → Off1 s.heap.objs.size l' := fun l' => by
            induction l' with
            | nil => intro _; trivial
            | cons p r ih => exact fun h => ⟨h p List.mem_cons_self, ih fun q hq => h q (List.mem_cons_of_mem _ hq)⟩
          exact this _ fun p hp => (off' p hp).2.2.2
    · rcases List.mem_cons.mp hp with rfl | hp
      · exact ⟨hacc, hDL, hD₀⟩
      · exact ⟨old' _ _ (N p hp).1, (N p hp).2⟩
  exact codeAny_compStart_list (loop _ rfl) (W.self 0 _ _ _ ⟨⟨_, by simpa using old' _ _ he⟩, hit.at fun o x => old' _ _ x, ⟨_, old' _ _ (N _ hl).1, rfl, nn, rfl⟩⟩ (loop _ rfl))
end

end
section

open PyProof.Rows.LCg
section
variable {prog : Program} {w : World} {A : Around} {E : Value → Shared → Prop} {s : Shared} {h₀ : Heap} {L : Addr} {m : Vars} {env : Env}
theorem en_ListComp {elt iter target : Expr} {ifs : List Expr} {scope : Scope} {cl : List (Str × Addr)} {pos : Pos} {Q : Value → Shared → Prop}
    (hclos : closureFor scope env = pure cl) (hkind : scope.kind = .function) (hnames : ∀ y ∈ scope.names, y.2 = .local → scope.names.lookup y.1 = some .local)
    (h : wpAny (model prog w) A (eval iter env) (EnSrc prog w A E env elt target iter ifs scope cl pos (fun _ => compPost (model prog w) A E none Q)) E s)
    (hs : ∀ x, foldedSetIterable iter env x = pure x := by intro _; rfl) :
    wpAny (model prog w) A (eval (.ListComp elt [⟨target, iter, ifs, 0⟩] scope pos) env) Q E s := by
  rw [eval_ListComp]
  exact wpAny_comprehension_free (use := none) rfl hs hclos hkind hnames h
theorem en_call {elt iter : Expr} {a b : Str} {pa pb tp : Pos} {kk : Nat} {ifs : List Expr} {scope : Scope} {cl : List (Str × Addr)} {pos : Pos} {l : Addr} {nn : Nat} {vs : List Value} {news : Led} {use : Option (Value → Sem Unit)} {Q : Value → Shared → Prop}
    (c : Value) (R : Led → Value → Nat → Prop) (hR : ∀ l l' v i, R l v i → (∀ p ∈ l, p ∈ l') → R l' v i) (pz : Nat → Bool)
    (hh : A.handled = none) (hl : (l, listOf vs.toArray nn) ∈ news) (hsz : vs.length ≤ sizeLine)
    (hcell : ∀ y ∈ scope.names, y.2 ≠ .cell) (hkind : scope.kind = .function) (hxa : scope.names.lookup a = some .local) (hxb : scope.names.lookup b = some .local) (hab : ¬ a = b)
    (F : Fr h₀ L s.heap m) (N : News h₀ L s.heap news)
    (fin : ∀ D C h tk m' ys tl, Fr h₀ L h m → News h₀ L h ((D, lst ys) :: (tl ++ news)) → Off1 D (tl ++ news) → h.Ns C m' → h₀.get? C = none → h₀.get? D = none → C ≠ L → D ≠ L → C ≠ D → (∀ p ∈ tl ++ news, p.1 ≠ C) →
      All2 (R tl) ys ((List.range vs.length).filter pz) → (∀ q ∈ tl, q.2.cls = c) → (∀ q ∈ tl, ∀ p ∈ news, p.1 ≠ q.1) → compPost (model prog w) A E use Q (.ref D) C (.ok .next) { s with heap := h, toks := tk })
    (turn : ∀ (i : Nat) t v nx C oC m₂ h tk (E' : Value → Shared → Prop), vs[i]? = some v → NsObj oC m₂ → m₂ a = some (.int (i : Int) t) → m₂ b = some v → (C, oC) ∈ nx → (∀ p ∈ news, p ∈ nx) → Fr h₀ L h m → News h₀ L h nx →
      wpAny (model prog w) A (enTests ifs (compEnvC scope cl C env)) (EtEnd h₀ L m nx s (pz i = false) (fun s₃ => pz i = true ∧ wpAny (model prog w) A (eval elt (compEnvC scope cl C env)) (CbEnd h₀ L m nx s c (fun l y => R l y i)) E' s₃)) E' { s with heap := h, toks := tk }) :
    wpAny (model prog w) A (call (.type "enumerate") [.ref l]) (EnSrc prog w A E env elt (.Tuple [.Name a pa, .Name b pb] kk tp) iter ifs scope cl pos (fun _ => compPost (model prog w) A E use Q)) E s := by
  have hLs : L < s.heap.objs.size := F.ns.lt
  refine call_enumerate_list (s := s) ⟨_, (N _ hl).1, rfl, nn, rfl⟩ fun h' he hit hsz' hk => ?_
  unfold EnSrc
  refine wpAny_pyIter_enum he ?_
  have F' : Fr h₀ L h' m := F.keeps hk
  have N' : News h₀ L h' news := N.grown hk
  have low : ∀ p ∈ news, p.1 < s.heap.objs.size := fun p hp => Heap.lt_size (N p hp).1
  have n0 : ∀ a, s.heap.objs.size ≤ a → h₀.get? a = none := fun a ha => by
    cases e : h₀.get? a with
    | none => rfl
    | some o' => exact absurd (Heap.lt_size (F.keep a o' e)) (Nat.not_lt.mpr ha)
  exact en_block (s := { s with heap := h' }) R hR pz hh he hit hl hsz (Nat.succ_ne_self _) hcell hkind hxa hxb hab F' N' (Nat.ne_of_lt (Nat.lt_succ_of_lt hLs)) (Nat.ne_of_lt hLs) (n0 _ (Nat.le_succ _)) (n0 _ (Nat.le_refl _)) (fun p hp => Nat.ne_of_lt (Nat.lt_succ_of_lt (low p hp))) (fun p hp => Nat.ne_of_lt (low p hp)) turn fin
theorem en_finE {use : Value → Shared → Prop} {D C : Addr} {h : Heap} {tk : Nat} {m' : Vars} {ys : List Value} {nw : Led} (F : Fr h₀ L h m) (N : News h₀ L h ((D, lst ys) :: nw)) (hn : h.Ns C m') (hC₀ : h₀.get? C = none) (hCL : C ≠ L) (hCD : C ≠ D) (offC : ∀ p ∈ nw, p.1 ≠ C)
    (fin : ∀ h'', Fr h₀ L h'' m → News h₀ L h'' ((D, lst ys) :: nw) → use (.ref D) { s with heap := h'', toks := tk }) : compPost (model prog w) A E none use (.ref D) C (.ok .next) { s with heap := h, toks := tk } := by
  refine ⟨m', hn, fun h'' hs'' => fin h'' (F.change hs'' hCL hC₀) (fun p hp => ?_)⟩
  refine ⟨hs''.extBut _ _ ?_ (N p hp).1, (N p hp).2⟩
  rcases List.mem_cons.mp hp with rfl | hp
  · exact Ne.symm hCD
  · exact offC p hp
/-- [f for a, b in enumerate(l) if ..], its worth read on -/
theorem en_callE {elt iter : Expr} {a b : Str} {pa pb tp : Pos} {kk : Nat} {ifs : List Expr} {scope : Scope} {cl : List (Str × Addr)} {pos : Pos} {l : Addr} {nn : Nat} {vs : List Value} {news : Led} {Q : Value → Shared → Prop}
    (c : Value) (R : Led → Value → Nat → Prop) (hR : ∀ l l' v i, R l v i → (∀ p ∈ l, p ∈ l') → R l' v i) (pz : Nat → Bool)
    (hh : A.handled = none) (hl : (l, listOf vs.toArray nn) ∈ news) (hsz : vs.length < 10000)
    (hcell : ∀ y ∈ scope.names, y.2 ≠ .cell) (hkind : scope.kind = .function) (hxa : scope.names.lookup a = some .local) (hxb : scope.names.lookup b = some .local) (hab : ¬ a = b)
    (F : Fr h₀ L s.heap m) (N : News h₀ L s.heap news)
    (turn : ∀ (i : Nat) t v nx C oC m₂ h tk (E' : Value → Shared → Prop), vs[i]? = some v → NsObj oC m₂ → m₂ a = some (.int (i : Int) t) → m₂ b = some v → (C, oC) ∈ nx → (∀ p ∈ news, p ∈ nx) → Fr h₀ L h m → News h₀ L h nx →
      wpAny (model prog w) A (enTests ifs (compEnvC scope cl C env)) (EtEnd h₀ L m nx s (pz i = false) (fun s₃ => pz i = true ∧ wpAny (model prog w) A (eval elt (compEnvC scope cl C env)) (CbEnd h₀ L m nx s c (fun l y => R l y i)) E' s₃)) E' { s with heap := h, toks := tk })
    (fin : ∀ D h tk ys tl, Fr h₀ L h m → News h₀ L h ((D, lst ys) :: (tl ++ news)) → (∀ p ∈ tl, p.1 ≠ D) → Off1 D news → All2 (R tl) ys ((List.range vs.length).filter pz) → (∀ q ∈ tl, q.2.cls = c) → (∀ q ∈ tl, ∀ p ∈ news, p.1 ≠ q.1) → Q (.ref D) { s with heap := h, toks := tk }) :
    wpAny (model prog w) A (call (.type "enumerate") [.ref l]) (EnSrc prog w A E env elt (.Tuple [.Name a pa, .Name b pb] kk tp) iter ifs scope cl pos (fun _ => compPost (model prog w) A E none Q)) E s := by
  refine en_call c R hR pz hh hl (by rw [sizeLine_eq]; omega) hcell hkind hxa hxb hab F N (fun D C h tk m' ys tl F' N' o1 hn hC₀ hD₀ hCL hDL hCD offC hA hc hf => en_finE F' N' hn hC₀ hCL hCD offC fun h'' F'' N'' => ?_) turn
  exact fin D h'' tk ys tl F'' N'' (off1_app o1).1 (off1_app o1).2 hA hc hf
end

end
section

section
variable {prog : Program} {w : World} {A : Around} {E : Value → Shared → Prop} {s : Shared} {env : Env} {h₀ : Heap} {body : List Stmt} {Q : Flow → Shared → Prop}
end

end
section

section
variable {prog : Program} {w : World} {A : Around} {E : Value → Shared → Prop} {s : Shared} {env : Env} {h₀ : Heap} {x : Str} {body : List Stmt} {Q : Flow → Shared → Prop}
/-- for over a range by ones, any word over turn, frame and ledger -/
theorem range_G1 {r : Addr} {t₀ u₀ v₀ : Tok} {a n : Nat} {b : Int} {m₀ : Vars} {news : Led} (J : Nat → Vars → Led → Prop)
    (hh : A.handled = none) (hr : IsRange s.heap r (a : Int) b 1 t₀ u₀ v₀) (hb : b = (a : Int) + (n : Int)) (hn : a + n < 2 ^ 40) (F : Fr h₀ env.locals s.heap m₀) (N : News h₀ env.locals s.heap news) (hj : J 0 m₀ news)
    (turn : ∀ (i : Nat) t m₁ nx h tk own, i < n → OwnOff own (nx.map (·.1)) → J i m₁ nx → Fr h₀ env.locals h (fun y => if y = x then some (.int ((a : Int) + (i : Int)) t) else m₁ y) → News h₀ env.locals h (nx ++ own) →
      wpAny (model prog w) A (execs body env) (InvPostG h₀ env.locals (J (i + 1)) own { s with heap := h, toks := tk } Q) E { s with heap := h, toks := tk })
    (done : ∀ m₁ nx h tk, J n m₁ nx → Fr h₀ env.locals h m₁ → News h₀ env.locals h nx → Q .next { s with heap := h, toks := tk }) :
    wpAny (model prog w) A (pyIter (.ref r)) (fun it s₂ => LoopAtV prog w A h₀ env x body Q E it s₂) E s := by
  subst hb
  have hsz : Builtin.Range.rangeSize (a : Int) ((a : Int) + (n : Int)) 1 = (n : Int) := by
    have := rangeSize_nat (a : Int) ((a : Int) + (n : Int))
    rw [this]
    have : ((a : Int) + (n : Int)).toNat - (a : Int).toNat = n := by omega
    omega
  refine wpAny_pyIter_range hr (small_one (by omega) (by omega) (by omega) (by omega)) ?_
  have W : Walks prog w A s.heap.objs.size [s.heap.objs.size] [s.heap.objs.size] n (fun i v => i < n ∧ ∃ t, v = .int ((a : Int) + i * 1) t)
      (fun i h => IsRangeIter h s.heap.objs.size ((a : Int) + (i : Nat) * 1) ((n : Int) - (i : Nat)) 1) := (Walks.range hh _ (a : Int) 1 n).bound
  refine kdr_loop J W (fun _ h => h) (fun _ h => h) ?_ ?_ ?_ ?_ (by show IsRangeIter _ _ _ _ _; rw [hsz]; simpa using Heap.get?_push_size _ rfl) (F.push _) (fun p hp => ⟨Heap.get?_push_of_some _ (N p hp).1, (N p hp).2⟩) hj ?_ ?_
  · intro i h hi b' hb
    rw [List.mem_singleton.mp hb]
    exact ⟨_, hi⟩
  · intro hm
    exact absurd F.ns.lt ((List.mem_singleton.mp hm) ▸ Nat.lt_irrefl _)
  · intro b' hb
    rw [List.mem_singleton.mp hb]
    exact next_is_new F
  · intro p hp hI
    exact absurd (Heap.lt_size (N p hp).1) ((List.mem_singleton.mp hI) ▸ Nat.lt_irrefl _)
  · rintro i v m₁ nx h tk own hi ⟨_, t, rfl⟩ hoff hJ F₁ N₁
    have e1 : (a : Int) + (i : Int) * 1 = (a : Int) + (i : Int) := by omega
    rw [e1] at F₁
    exact turn i t m₁ nx h tk own hi hoff hJ F₁ N₁
  · rintro m₁ nx h tk hJ F₁ N₁
    exact done m₁ nx h tk hJ F₁ N₁
theorem range_roP1 {r : Addr} {t₀ u₀ v₀ : Tok} {a n : Nat} {b : Int} {m₀ : Vars} {news : Led} {yv : Str} (P : Nat → Option Value → Prop)
    (hh : A.handled = none) (hr : IsRange s.heap r (a : Int) b 1 t₀ u₀ v₀) (hb : b = (a : Int) + (n : Int)) (hn : a + n < 2 ^ 40) (F : Fr h₀ env.locals s.heap m₀) (N : News h₀ env.locals s.heap news) (h0 : P 0 (m₀ yv))
    (turn : ∀ (i : Nat) t h tk nx py, i < n → P i py → (∀ p ∈ news, p ∈ nx) → Fr h₀ env.locals h (fun y => if y = x then some (.int ((a : Int) + (i : Int)) t) else if y = yv then py else m₀ y) → News h₀ env.locals h nx →
      wpAny (model prog w) A (execs body env) (RoEndP h₀ env.locals x yv m₀ nx (P (i + 1)) s Q) E { s with heap := h, toks := tk })
    (done : ∀ v' h tk py, P n py → Fr h₀ env.locals h (fun y => if y = x then v' else if y = yv then py else m₀ y) → News h₀ env.locals h news → Q .next { s with heap := h, toks := tk }) :
    wpAny (model prog w) A (pyIter (.ref r)) (fun it s₂ => LoopAtV prog w A h₀ env x body Q E it s₂) E s := by
  refine range_G1 (news := news) (fun i m nx => nx = news ∧ P i (m yv) ∧ ∀ z, z ≠ x → z ≠ yv → m z = m₀ z) hh hr hb hn F N ⟨rfl, h0, fun _ _ _ => rfl⟩ ?_ ?_
  · rintro i t m₁ nx h tk own hi hoff ⟨rfl, hp, hm⟩ F₁ N₁
    rw [vars_at2 hm] at F₁
    refine wpAny_mono (turn i t h tk (nx ++ own) _ hi hp (fun p hp => List.mem_append_left _ hp) F₁ N₁) (fun f s₂ q => ?_) fun _ _ e => e
    have up : RoEndP h₀ env.locals x yv m₀ (nx ++ own) (P (i + 1)) s Q .next s₂ → InvEndG h₀ env.locals (fun m nx' => nx' = nx ∧ P (i + 1) (m yv) ∧ ∀ z, z ≠ x → z ≠ yv → m z = m₀ z) own { s with heap := h, toks := tk } s₂ := by
      rintro ⟨h', tk', m', hp', rfl, F', hm', N'⟩
      exact ⟨h', tk', m', nx ++ own, nx, rfl, F', N', fun p hp => List.mem_append_left _ hp, fun p hp => List.mem_append_right _ hp, hoff, rfl, hp', hm'⟩
    cases f with
    | ret v => exact q
    | brk => exact q
    | next => exact up q
    | cont => exact up q
  · rintro m₁ nx h tk ⟨rfl, hp, hm⟩ F₁ N₁
    rw [vars_out2 hm] at F₁
    exact done _ h tk _ hp F₁ N₁
end

end
section

/-- a range by ones, as it lies in the ledger -/
abbrev rangeO (a b : Int) (t u v : Tok) : Obj := { cls := .type "range", dict := none, data := .fields #[.int a t, .int b u, .int 1 v], slots := #[] }
section
variable {prog : Program} {w : World} {A : Around} {E : Value → Shared → Prop} {s : Shared} {h₀ : Heap} {L : Addr} {m : Str → Option Value} {news : List (Addr × Obj)} {Q : Value → Shared → Prop}
theorem range2_led {a b : Int} {t u : Tok} (F : Fr h₀ L s.heap m) (N : News h₀ L s.heap news)
    (h : ∀ r h' tk t₁ u₁ v₁, Fr h₀ L h' m → News h₀ L h' ((r, rangeO a b t₁ u₁ v₁) :: news) → (∀ p ∈ news, p.1 < r) → Q (.ref r) { s with heap := h', toks := tk }) :
    wpAny (model prog w) A (call (.type "range") [.int a t, .int b u]) Q E s :=
  call_range_2 (h _ _ _ _ _ _ (F.push _) (N.push F _) fun _ hp => Heap.lt_size (N _ hp).1)
theorem range1_led {b : Int} {u : Tok} (F : Fr h₀ L s.heap m) (N : News h₀ L s.heap news)
    (h : ∀ r h' tk t₁ u₁ v₁, Fr h₀ L h' m → News h₀ L h' ((r, rangeO 0 b t₁ u₁ v₁) :: news) → (∀ p ∈ news, p.1 < r) → Q (.ref r) { s with heap := h', toks := tk }) :
    wpAny (model prog w) A (call (.type "range") [.int b u]) Q E s :=
  call_range_1 (h _ _ _ _ _ _ (F.push _) (N.push F _) fun _ hp => Heap.lt_size (N _ hp).1)
theorem in_range {r : Addr} {a b x : Int} {t u v y : Tok} (N : News h₀ L s.heap news) (hr : (r, rangeO a b t u v) ∈ news) (h : Q (.bool (decide (a ≤ x ∧ x < b))) s) :
    wpAny (model prog w) A (compareOp .In (.int x y) (.ref r)) Q E s := by
  have hg : s.heap.get? r = some (rangeO a b t u v) := (N _ hr).1
  have hT : s.TypeIs (.ref r) "range" := ⟨_, hg, rfl⟩
  show wpAny _ A (do return .bool (← contains _ _)) Q E s
  refine wpAny_bind (wpAny_contains_slot hT F.slot_range_contains (wpAny_call_entry F.slot_range_contains hT F.entry_range_contains ?_ (F.args_range_contains_2 _ _)))
  show wpAny _ _ (rule "range.contains.reckoned" >>= _) _ _ s
  refine wpAny_bind (wpAny_rule ?_)
  refine wpAny_bind ?_
  show wpAny _ _ (field (.ref r) 0 >>= _) _ _ s
  refine wpAny_bind (wpAny_field hg rfl (x := .int a t) rfl ?_)
  refine wpAny_bind (wpAny_pure ?_)
  refine wpAny_bind (wpAny_field hg rfl (x := .int b u) rfl ?_)
  refine wpAny_bind (wpAny_pure ?_)
  refine wpAny_bind (wpAny_field hg rfl (x := .int 1 v) rfl ?_)
  refine wpAny_bind (wpAny_pure ?_)
  refine wpAny_pure ?_
  refine wpAny_pure ?_
  have e : (Builtin.Range.rangePlace? a b 1 x).isSome = decide (a ≤ x ∧ x < b) := by
    unfold Builtin.Range.rangePlace?
    by_cases c : a ≤ x ∧ x < b
    · simp [c.1, c.2]
    · have : ¬(a ≤ x ∧ x < b) := c
      simp [this]
  rw [e]
  exact ⟨_, rfl, wpAny_truthy_bool (wpAny_pure h)⟩
/-- the greatest of a list of bytes -/
theorem argBest_blt (g : Nat → By) : ∀ k, argBest (fun i j => blt (g j) (g i)) k ≤ k ∧ ∀ j, j ≤ k → blt (g (argBest (fun i j => blt (g j) (g i)) k)) (g j) = false
  | 0 => ⟨Nat.le_refl _, fun j hj => by
      have : j = 0 := by omega
      subst this; exact blt_irrefl _⟩
  | k + 1 => by
    obtain ⟨h1, h2⟩ := argBest_blt g k
    simp only [argBest]
    by_cases hc : blt (g (argBest (fun i j => blt (g j) (g i)) k)) (g (k + 1)) = true
    · rw [if_pos hc]
      refine ⟨Nat.le_refl _, fun j hj => ?_⟩
      by_cases e : j = k + 1
      · subst e; exact blt_irrefl _
      · cases q : blt (g (k + 1)) (g j) with
        | false => rfl
        | true =>
          have := h2 j (by omega)
          rw [blt_trans hc q] at this
          exact this
    · rw [if_neg hc]
      refine ⟨by omega, fun j hj => ?_⟩
      by_cases e : j = k + 1
      · subst e; simpa using hc
      · exact h2 j (by omega)
theorem max_bys {l : Addr} {vs : List Value} {bs : List By} {n : Nat} (hh : A.handled = none) (F : Fr h₀ L s.heap m) (N : News h₀ L s.heap news) (hl : (l, listOf vs.toArray n) ∈ news) (hf : All2 IsB vs bs) (hne : 0 < bs.length)
    (h : ∀ h' tk t b, b ∈ bs → (∀ c ∈ bs, blt b c = false) → Fr h₀ L h' m → News h₀ L h' news → Q (.bytes b t) { s with heap := h', toks := tk }) : wpAny (model prog w) A (call (.builtin "max") [.ref l]) Q E s := by
  have hls : s.heap.IsList l vs.toArray := ⟨_, (N _ hl).1, rfl, n, rfl⟩
  refine call_max_walk (Flt.iter_list_ hls fun s₂ e st hfp hlI => ?_)
  subst e
  have W := Walks.list (prog := prog) (w := w) (A := A.in1) hh _ l hlI vs.toArray
  refine ⟨_, _, _, _, _, _, fun i j => blt (bs.getD j #[]) (bs.getD i #[]), rfl, W, st, hfp, by rw [List.size_toArray, hf.len]; exact hne, fun i j vi vj s Q E hi hj h => ?_, fun v h' tk hP hk => ?_⟩
  · obtain ⟨b, e1, t, rfl⟩ := hf.get' (by simpa using hi)
    obtain ⟨c, e2, u, rfl⟩ := hf.get' (by simpa using hj)
    simp only [List.getD_eq_getElem?_getD, e1, e2, Option.getD_some] at h
    exact gt_by h
  · rw [List.size_toArray, hf.len] at hP
    obtain ⟨b, e1, t, rfl⟩ := hf.get' ((List.getElem?_toArray).symm.trans hP)
    obtain ⟨h1, h2⟩ := argBest_blt (fun i => bs.getD i #[]) (bs.length - 1)
    have eb : bs.getD (argBest (fun i j => blt (bs.getD j #[]) (bs.getD i #[])) (bs.length - 1)) #[] = b := by
      rw [List.getD_eq_getElem?_getD, e1, Option.getD_some]
    simp only [eb] at h2
    have kp := Flt.kept_iter hk
    refine h h' tk t b (List.mem_of_getElem? e1) (fun c hc => ?_) (F.grownK kp) (N.grown kp)
    obtain ⟨j, hj, rfl⟩ := List.mem_iff_getElem.mp hc
    have := h2 j (by omega)
    simpa [hj] using this
end

end
section

theorem vars_at5 {m m₀ : Vars} {x y1 y2 y3 y4 : Str} {v : Option Value} (hm : ∀ z, z ≠ x → z ≠ y1 → z ≠ y2 → z ≠ y3 → z ≠ y4 → m z = m₀ z) : (fun y => if y = x then v else m y) = (fun y => if y = x then v else if y = y1 then m y1 else if y = y2 then m y2 else if y = y3 then m y3 else if y = y4 then m y4 else m₀ y) := by
  funext z
  by_cases e : z = x
  · rw [if_pos e, if_pos e]
  · rw [if_neg e, if_neg e]
    by_cases f : z = y1
    · rw [if_pos f, f]
    · rw [if_neg f]
      by_cases g : z = y2
      · rw [if_pos g, g]
      · rw [if_neg g]
        by_cases h : z = y3
        · rw [if_pos h, h]
        · rw [if_neg h]
          by_cases k : z = y4
          · rw [if_pos k, k]
          · rw [if_neg k, hm z e f g h k]
theorem vars_out5 {m m₀ : Vars} {x y1 y2 y3 y4 : Str} (hm : ∀ z, z ≠ x → z ≠ y1 → z ≠ y2 → z ≠ y3 → z ≠ y4 → m z = m₀ z) : m = (fun y => if y = x then m x else if y = y1 then m y1 else if y = y2 then m y2 else if y = y3 then m y3 else if y = y4 then m y4 else m₀ y) := by
  have := vars_at5 (v := m x) hm
  rw [← this]
  funext z
  by_cases e : z = x
  · rw [if_pos e, e]
  · rw [if_neg e]
/-- a turn's end, of a loop that changes the part mu of the ledger and four variables; the word speaks of the first -/
def MEnd4 (h₀ : Heap) (L : Addr) (x y1 y2 y3 y4 : Str) (m₀ : Vars) (ro : Led) (J : Option Value → Led → Prop) (s : Shared) (Q : Flow → Shared → Prop) (f : Flow) (s₂ : Shared) : Prop :=
  match f with
  | .ret v => Q (.ret v) s₂
  | .brk => Q .next s₂
  | _ => ∃ h' tk' m' mu, s₂ = { s with heap := h', toks := tk' } ∧ Fr h₀ L h' m' ∧ (∀ z, z ≠ x → z ≠ y1 → z ≠ y2 → z ≠ y3 → z ≠ y4 → m' z = m₀ z) ∧ News h₀ L h' (mu ++ ro) ∧ Apart mu ro ∧ J (m' y1) mu
section
variable {prog : Program} {w : World} {A : Around} {E : Value → Shared → Prop} {s : Shared} {env : Env} {h₀ : Heap} {x y1 y2 y3 y4 : Str} {body : List Stmt} {Q : Flow → Shared → Prop}
theorem MEnd4.next {L : Addr} {m₀ m' : Vars} {ro mu : Led} {J : Option Value → Led → Prop} {s : Shared} {h' : Heap} {tk' : Nat} (F : Fr h₀ L h' m') (N : News h₀ L h' (mu ++ ro)) (ha : Apart mu ro) (hj : J (m' y1) mu) (hm : ∀ z, z ≠ x → z ≠ y1 → z ≠ y2 → z ≠ y3 → z ≠ y4 → m' z = m₀ z) :
    MEnd4 h₀ L x y1 y2 y3 y4 m₀ ro J s Q .next { s with heap := h', toks := tk' } := ⟨h', tk', m', mu, rfl, F, hm, N, ha, hj⟩
theorem MEnd4.inv {m₀ : Vars} {news mu₁ own : Led} {J : Option Value → Led → Prop} {s₁ s₂ : Shared} (hoff : OwnOff own ((mu₁ ++ news).map (·.1))) (q : MEnd4 h₀ env.locals x y1 y2 y3 y4 m₀ (news ++ own) J s₁ Q .next s₂) :
    InvEndG h₀ env.locals (fun m nx => (∀ z, z ≠ x → z ≠ y1 → z ≠ y2 → z ≠ y3 → z ≠ y4 → m z = m₀ z) ∧ ∃ mu, nx = mu ++ news ∧ Apart mu news ∧ J (m y1) mu) own s₁ s₂ := by
  obtain ⟨h', tk', m', mu, rfl, F', hm', N', ha, hj⟩ := q
  refine ⟨h', tk', m', mu ++ (news ++ own), mu ++ news, rfl, F', N', fun p hp => ?_, fun p hp => List.mem_append_right _ (List.mem_append_right _ hp), fun p hp b hb => ?_, hm', mu, rfl, fun p hp q hq => ha p hp q (List.mem_append_left _ hq), hj⟩
  · rcases List.mem_append.mp hp with hp | hp
    · exact List.mem_append_left _ hp
    · exact List.mem_append_right _ (List.mem_append_left _ hp)
  · obtain ⟨e, he, rfl⟩ := List.mem_map.mp hb
    rcases List.mem_append.mp he with he | he
    · exact ha e he p (List.mem_append_right _ hp)
    · exact hoff p hp _ (List.mem_map.mpr ⟨e, List.mem_append_right _ he, rfl⟩)
theorem range_mut4 {r : Addr} {t₀ u₀ v₀ : Tok} {n : Nat} {m₀ : Vars} {mu₀ news : Led} (y1 y2 y3 y4 : Str) (J : Nat → Option Value → Led → Prop)
    (hh : A.handled = none) (hr : IsRange s.heap r 0 (n : Int) 1 t₀ u₀ v₀) (hn : n < 2 ^ 40) (F : Fr h₀ env.locals s.heap m₀) (N : News h₀ env.locals s.heap (mu₀ ++ news)) (hp : Apart mu₀ news) (hj : J 0 (m₀ y1) mu₀)
    (turn : ∀ (i : Nat) t p1 p2 p3 p4 mu ro h tk, i < n → J i p1 mu → (∀ p ∈ news, p ∈ ro) → Apart mu ro → Fr h₀ env.locals h (fun y => if y = x then some (.int (i : Int) t) else if y = y1 then p1 else if y = y2 then p2 else if y = y3 then p3 else if y = y4 then p4 else m₀ y) → News h₀ env.locals h (mu ++ ro) →
      wpAny (model prog w) A (execs body env) (MEnd4 h₀ env.locals x y1 y2 y3 y4 m₀ ro (J (i + 1)) { s with heap := h, toks := tk } Q) E { s with heap := h, toks := tk })
    (done : ∀ px p1 p2 p3 p4 mu h tk, J n p1 mu → Apart mu news → Fr h₀ env.locals h (fun y => if y = x then px else if y = y1 then p1 else if y = y2 then p2 else if y = y3 then p3 else if y = y4 then p4 else m₀ y) → News h₀ env.locals h (mu ++ news) → Q .next { s with heap := h, toks := tk }) :
    wpAny (model prog w) A (pyIter (.ref r)) (fun it s₂ => LoopAtV prog w A h₀ env x body Q E it s₂) E s := by
  refine range_G (news := mu₀ ++ news) (fun i m nx => (∀ z, z ≠ x → z ≠ y1 → z ≠ y2 → z ≠ y3 → z ≠ y4 → m z = m₀ z) ∧ ∃ mu, nx = mu ++ news ∧ Apart mu news ∧ J i (m y1) mu) hh hr hn F N ⟨fun _ _ _ _ _ _ => rfl, mu₀, rfl, hp, hj⟩ ?_ ?_
  · rintro i t m₁ nx h tk own hi hoff ⟨hm, mu, rfl, ha, hJ⟩ F₁ N₁
    rw [vars_at5 hm] at F₁
    rw [List.append_assoc] at N₁
    refine wpAny_mono (turn i t _ _ _ _ mu (news ++ own) h tk hi hJ (fun p hp => List.mem_append_left _ hp) (apart_own ha hoff) F₁ N₁) (fun f s₂ q => ?_) fun _ _ e => e
    cases f with
    | ret v => exact q
    | brk => exact q
    | next => exact MEnd4.inv (Q := Q) hoff q
    | cont => exact MEnd4.inv (Q := Q) hoff q
  · rintro m₁ nx h tk ⟨hm, mu, rfl, ha, hJ⟩ F₁ N₁
    rw [vars_out5 hm] at F₁
    exact done _ _ _ _ _ mu h tk hJ ha F₁ N₁
end

end
section

theorem vars_out4 {m m₀ : Vars} {y1 y2 y3 y4 : Str} (hm : ∀ z, z ≠ y1 → z ≠ y2 → z ≠ y3 → z ≠ y4 → m z = m₀ z) : m = (fun y => if y = y1 then m y1 else if y = y2 then m y2 else if y = y3 then m y3 else if y = y4 then m y4 else m₀ y) := by
  funext z
  by_cases f : z = y1
  · rw [if_pos f, f]
  · rw [if_neg f]
    by_cases g : z = y2
    · rw [if_pos g, g]
    · rw [if_neg g]
      by_cases h : z = y3
      · rw [if_pos h, h]
      · rw [if_neg h]
        by_cases k : z = y4
        · rw [if_pos k, k]
        · rw [if_neg k, hm z f g h k]
def rgItms (i k : Nat) : List Itm := (List.range' i k).map fun (j : Nat) => Itm.tok fun t => .int (j : Int) t
section
variable {prog : Program} {w : World} {A : Around} {E : Value → Shared → Prop} {s : Shared} {env : Env} {h₀ : Heap} {target : PySem.Expr} {body : List Stmt} {Q : Flow → Shared → Prop}
/-- a turn's end: a part mu of the ledger and four variables changed -/
def TEnd (h₀ : Heap) (L : Addr) (y1 y2 y3 y4 : Str) (m₀ : Vars) (ro : Led) (J : Option Value → Led → Prop) (s : Shared) (Q : Flow → Shared → Prop) (f : Flow) (s₂ : Shared) : Prop :=
  match f with
  | .ret v => Q (.ret v) s₂
  | .brk => Q .next s₂
  | _ => ∃ h' tk' m' mu, s₂ = { s with heap := h', toks := tk' } ∧ Fr h₀ L h' m' ∧ (∀ z, z ≠ y1 → z ≠ y2 → z ≠ y3 → z ≠ y4 → m' z = m₀ z) ∧ News h₀ L h' (mu ++ ro) ∧ Apart mu ro ∧ J (m' y1) mu
theorem TEnd.next {L : Addr} {y1 y2 y3 y4 : Str} {m₀ m' : Vars} {ro mu : Led} {J : Option Value → Led → Prop} {s : Shared} {h' : Heap} {tk' : Nat} (F : Fr h₀ L h' m') (N : News h₀ L h' (mu ++ ro)) (ha : Apart mu ro) (hj : J (m' y1) mu) (hm : ∀ z, z ≠ y1 → z ≠ y2 → z ≠ y3 → z ≠ y4 → m' z = m₀ z) :
    TEnd h₀ L y1 y2 y3 y4 m₀ ro J s Q .next { s with heap := h', toks := tk' } := ⟨h', tk', m', mu, rfl, F, hm, N, ha, hj⟩
theorem range_items {I n : Nat} {m₀ : Vars} {news : Led} (y1 y2 y3 y4 : Str) (J : Nat → Option Value → Led → Prop) (hI : ∀ p ∈ news, p.1 < I)
    (turn : ∀ (i : Nat) t p1 p2 p3 p4 mu ro h tk, i < n → J i p1 mu → (∀ p ∈ news, p ∈ ro) → Apart mu ro → Fr h₀ env.locals h (fun y => if y = y1 then p1 else if y = y2 then p2 else if y = y3 then p3 else if y = y4 then p4 else m₀ y) → News h₀ env.locals h (mu ++ ro) →
      wpAny (model prog w) A (assign target env (.int (i : Int) t)) (fun _ s₂ => wpAny (model prog w) A (execs body env) (TEnd h₀ env.locals y1 y2 y3 y4 m₀ ro (J (i + 1)) { s with heap := h, toks := tk } Q) E s₂) E { s with heap := h, toks := tk })
    (done : ∀ p1 p2 p3 p4 mu h tk, J n p1 mu → Apart mu news → Fr h₀ env.locals h (fun y => if y = y1 then p1 else if y = y2 then p2 else if y = y3 then p3 else if y = y4 then p4 else m₀ y) → News h₀ env.locals h (mu ++ news) → Q .next { s with heap := h, toks := tk }) :
    ∀ (k i : Nat) (m : Vars) (mu : Led), i + k = n → J i (m y1) mu → (∀ z, z ≠ y1 → z ≠ y2 → z ≠ y3 → z ≠ y4 → m z = m₀ z) → Apart mu news → (∀ p ∈ mu, p.1 ≠ I) →
      ItemsRest prog w A E h₀ env target body Q s [(I, "range_iterator")] [] (rgItms i k) m (mu ++ news)
  | 0, i, m, mu, hk, hJ, hm, hap, _ => by
    refine ItemsRest.zero fun h tk F N => ?_
    have hi : i = n := by omega
    subst hi
    rw [vars_out4 hm] at F
    exact done _ _ _ _ mu h tk hJ hap F N
  | k + 1, i, m, mu, hk, hJ, hm, hap, hmu => by
    refine ItemsRest.tok fun t h tk F => AllObj.cons fun oi hoi => AllObj.nil fun N => ?_
    rw [vars_out4 hm] at F
    have N' : News h₀ env.locals h (mu ++ (news ++ [(I, oi)])) := fun p hp => N p (by
      simp only [List.mem_append, List.mem_cons, List.not_mem_nil, or_false] at hp ⊢
      rcases hp with h | h | h
      · exact .inr (.inl h)
      · exact .inr (.inr h)
      · exact .inl h)
    have hro : Apart mu (news ++ [(I, oi)]) := fun p hp q hq => by
      rcases List.mem_append.mp hq with hq | hq
      · exact hap p hp q hq
      · rw [List.mem_singleton.mp hq]; exact Ne.symm (hmu p hp)
    refine wpAny_mono (turn i t _ _ _ _ mu (news ++ [(I, oi)]) h tk (by omega) hJ (fun p hp => List.mem_append_left _ hp) hro F N') (fun _ s₂ h₂ => wpAny_mono h₂ (fun f s₃ q => ?_) fun _ _ e => e) fun _ _ e => e
    have up : TEnd h₀ env.locals y1 y2 y3 y4 m₀ (news ++ [(I, oi)]) (J (i + 1)) { s with heap := h, toks := tk } Q .next s₃ →
        UnrEndW h₀ env.locals { s with heap := h, toks := tk } [(I, oi)] (fun m' n' => SubL [] n' ∧ ItemsRest prog w A E h₀ env target body Q s [(I, "range_iterator")] [] (rgItms (i + 1) k) m' n') s₃ := by
      rintro ⟨h6, tk6, m6, mu6, rfl, F6, hm6, N6, ha6, hj6⟩
      have hmu6 : ∀ p ∈ mu6, p.1 ≠ I := fun p hp => Ne.symm (ha6 p hp (I, oi) (by simp))
      refine ⟨h6, tk6, m6, mu6 ++ news, rfl, F6, fun p hp => N6 p ?_, fun p hp q hq => ?_, trivial, range_items y1 y2 y3 y4 J hI turn done k (i + 1) m6 mu6 (by omega) hj6 hm6 (fun p hp q hq => ha6 p hp q (List.mem_append_left _ hq)) hmu6⟩
      · simp only [List.mem_append, List.mem_cons, List.not_mem_nil, or_false] at hp ⊢
        rcases hp with h | h | h
        · exact .inr (.inr h)
        · exact .inl h
        · exact .inr (.inl h)
      · rw [List.mem_singleton.mp hq]
        rcases List.mem_append.mp hp with hp | hp
        · exact hmu6 p hp
        · exact Nat.ne_of_lt (hI p hp)
    cases f with
    | ret v => exact q
    | brk => exact q
    | next => exact up q
    | cont => exact up q
/-- for x in range(n): .., whatever the target; a part mu of the ledger and four names change -/
theorem range_turns {r : Addr} {t₀ u₀ v₀ : Tok} {n : Nat} {m₀ : Vars} {mu₀ news : Led} {x : Str} {px : Pos} (y1 y2 y3 y4 : Str) (J : Nat → Option Value → Led → Prop) (ht : target = .Name x px)
    (hh : A.handled = none) (hr : IsRange s.heap r 0 (n : Int) 1 t₀ u₀ v₀) (hn : n < 2 ^ 40) (F : Fr h₀ env.locals s.heap m₀) (N : News h₀ env.locals s.heap (mu₀ ++ news)) (hp : Apart mu₀ news) (hj : J 0 (m₀ y1) mu₀)
    (turn : ∀ (i : Nat) t p1 p2 p3 p4 mu ro h tk, i < n → J i p1 mu → (∀ p ∈ news, p ∈ ro) → Apart mu ro → Fr h₀ env.locals h (fun y => if y = y1 then p1 else if y = y2 then p2 else if y = y3 then p3 else if y = y4 then p4 else m₀ y) → News h₀ env.locals h (mu ++ ro) →
      wpAny (model prog w) A (assign target env (.int (i : Int) t)) (fun _ s₂ => wpAny (model prog w) A (execs body env) (TEnd h₀ env.locals y1 y2 y3 y4 m₀ ro (J (i + 1)) { s with heap := h, toks := tk } Q) E s₂) E { s with heap := h, toks := tk })
    (done : ∀ p1 p2 p3 p4 mu h tk, J n p1 mu → Apart mu news → Fr h₀ env.locals h (fun y => if y = y1 then p1 else if y = y2 then p2 else if y = y3 then p3 else if y = y4 then p4 else m₀ y) → News h₀ env.locals h (mu ++ news) → Q .next { s with heap := h, toks := tk }) :
    wpAny (model prog w) A (pyIter (.ref r)) (fun it s₂ => TurnsAt prog w A h₀ env target body Q E it s₂) E s := by
  subst ht
  have hsz : Builtin.Range.rangeSize 0 (n : Int) 1 = (n : Int) := by
    have := rangeSize_nat 0 (n : Int)
    rw [this]
    omega
  refine wpAny_pyIter_range hr (small_one (by omega) (by omega) (by omega) (by omega)) ?_
  have W := Walks.range (prog := prog) (w := w) (A := A) hh s.heap.objs.size 0 1 n
  have hlt : ∀ p ∈ mu₀ ++ news, p.1 < s.heap.objs.size := fun p hp => Heap.lt_size (N p hp).1
  refine ktu_core (tk0 := s.toks) (keep := []) (ws := [(s.heap.objs.size, "range_iterator")]) (xs := rgItms 0 n) (KTurns.ofWalks W.bound fun i v s Q E st q => wpAny_pure q) (by simp [rgItms]) (fun i v h hp => ?_) (fun i h st => ?_) (fun b hb => ?_) (fun b hb => by simpa using hb) (fun b hb => ?_) ?_ (fun p hp hI => ?_) ?_ (F.push _) (fun p hp => ⟨Heap.get?_push_of_some _ (N p hp).1, (N p hp).2⟩) trivial ?_
  · obtain ⟨hi, t, rfl⟩ := hp
    refine ⟨.tok fun t => .int (i : Int) t, ?_, t, by simp⟩
    unfold rgItms
    rw [List.getElem?_map, List.getElem?_range' (by omega)]
    simp
  · exact ⟨[(s.heap.objs.size, _)], ⟨⟨rfl, rfl⟩, trivial⟩, fun p hp => by rw [List.mem_singleton.mp hp]; exact st⟩
  · have hb' : b = s.heap.objs.size := by simpa using hb
    rw [hb']
    exact ⟨List.mem_cons_self .., next_is_new F⟩
  · exact .inl (by simpa using hb)
  · intro hI
    exact absurd F.ns.lt ((List.mem_singleton.mp hI) ▸ Nat.lt_irrefl _)
  · exact absurd (hlt p hp) ((List.mem_singleton.mp hI) ▸ Nat.lt_irrefl _)
  · show IsRangeIter _ _ _ _ _
    rw [hsz]
    simpa using Heap.get?_push_size _ rfl
  · exact range_items y1 y2 y3 y4 J (fun p hp => hlt p (List.mem_append_right _ hp)) turn done n 0 m₀ mu₀ (by omega) hj (fun _ _ _ _ _ => rfl) hp fun p hp => Nat.ne_of_lt (hlt p (List.mem_append_left _ hp))
end

end
section

open PyProof.Rows.LCg
section
variable {prog : Program} {w : World} {A : Around} {s : Shared} {h₀ : Heap} {L : Addr} {m : Vars} {env : Env} {elt ct : Expr} {x : Str} {scope : Scope} {cl : List (Str × Addr)} {S : Led → Prop} {P : Nat → Value → Prop} {Fin : List Value → Led → Prop} {n : Nat}
/-- [f(v) for v in vs if ..] over a list whose items are told -/
theorem compT_map {α β : Type} {R' : Value → β → Prop} (f : α → β) {news l₀ : Led} {R : Led → Value → α → Prop} (hR : ∀ l l' v a, R l v a → (∀ q ∈ l, q ∈ l') → R l' v a) {vs : List Value} {as : List α} (hA : All2 (R l₀) vs as) (hl : ∀ q ∈ l₀, q ∈ news) (pz : α → Bool) (hS : S news)
    (fin : ∀ ys, All2 R' ys ((as.filter pz).map f) → Fin ys news)
    (turn : ∀ (i : Nat) a v nx C oC m₂ h tk (E' : Value → Shared → Prop), as[i]? = some a → R nx v a → NsObj oC m₂ → m₂ x = some v → (C, oC) ∈ nx → (∀ p ∈ news, p ∈ nx) → Fr h₀ L h m → News h₀ L h nx →
      wpAny (model prog w) A (isTrue ct (compEnvC scope cl C env) (eval ct (compEnvC scope cl C env))) (CtEnd h₀ L m nx s (pz a = false) (fun s' => pz a = true ∧ wpAny (model prog w) A (eval elt (compEnvC scope cl C env)) (CoEnd h₀ L m nx s (fun y => R' y (f a))) E' s')) E' { s with heap := h, toks := tk }) :
    LCt.CompRestT prog w A h₀ L m env ct elt x scope cl s S (fun i v => vs.toArray[i]? = some v) Fin vs.toArray.size 0 [] news := by
  refine compT_ro (n := vs.toArray.size) (fun i ys => All2 R' ys (((as.take i).filter pz).map f)) hS (fun ys hJ => fin ys ?_) ?_ _ 0 [] (by omega) (by simpa using All2.nil)
  · rw [List.size_toArray, hA.len, List.take_length] at hJ; exact hJ
  · intro i v ys nx C oC m₂ h tk E' hi hP hJ hC hx hm hsub F N
    have hv : vs[i]? = some v := by simpa using hP
    obtain ⟨a, ha, hr⟩ := hA.get' hv
    have ht : as.take (i + 1) = as.take i ++ [a] := by rw [List.take_add_one, ha]; rfl
    refine wpAny_mono (turn i a v nx C oC m₂ h tk E' ha (hR _ _ _ _ hr fun q hq => hsub q (hl q hq)) hC hx hm hsub F N) (fun ok s₂ hq => ?_) fun _ _ e => e
    obtain ⟨h', tk', rfl, F', N', hy, hn⟩ := hq
    refine ⟨h', tk', rfl, F', N', fun e => ?_, fun e => ?_⟩
    · obtain ⟨hz, hw⟩ := hy e
      refine wpAny_mono hw (fun y s₃ hq3 => ?_) fun _ _ e => e
      obtain ⟨h3, tk3, rfl, F3, N3, hr3⟩ := hq3
      refine ⟨h3, tk3, rfl, F3, N3, ?_⟩
      rw [ht, List.filter_append, List.map_append]
      simp only [List.filter_cons, hz, if_true, List.filter_nil, List.map_cons, List.map_nil]
      exact hJ.append (All2.one hr3)
    · rw [ht, List.filter_append, List.map_append]
      simp only [List.filter_cons, hn e, Bool.false_eq_true, if_false, List.filter_nil, List.map_nil, List.append_nil]
      exact hJ
end
/-- the first of those that are so, in a sorted list -/
theorem filt_head {g : Nat → By × Int} {p : List Nat} {pz : Nat → Bool} {i : Nat} (hs : (p.map g).Pairwise (fun a b => rowLt a b = true)) (hm : i ∈ p) (hz : pz i = true) (hmin : ∀ j ∈ p, pz j = true → j = i ∨ rowLt (g i) (g j) = true) : ∃ r, p.filter pz = i :: r := by
  have hf : (p.filter pz).Pairwise (fun a b => rowLt (g a) (g b) = true) := List.Pairwise.sublist List.filter_sublist (List.pairwise_map.mp hs)
  have hi : i ∈ p.filter pz := List.mem_filter.mpr ⟨hm, hz⟩
  cases e : p.filter pz with
  | nil => rw [e] at hi; cases hi
  | cons a r =>
    have ha : a ∈ p.filter pz := by rw [e]; exact List.mem_cons_self
    obtain ⟨ha1, ha2⟩ := List.mem_filter.mp ha
    rw [e] at hf hi
    rcases List.mem_cons.mp hi with rfl | hi
    · exact ⟨r, rfl⟩
    · have h1 := (List.pairwise_cons.mp hf).1 i hi
      rcases hmin a ha1 ha2 with rfl | h2
      · exact ⟨r, rfl⟩
      · rw [rowLt_asymm h1] at h2; cases h2

end
noncomputable def pick {α : Type} (is : List Nat) (l : List α) : List α := is.filterMap fun i => l[i]?
noncomputable def view : Program := { PySem.Challenge.rw_pc0127_02.row.toRowW.prog with main := { PySem.Challenge.rw_pc0127_02.row.toRowW.prog.main with body := pick [1, 2, 4, 5, 7, 8, 9, 10, 11] PySem.Challenge.rw_pc0127_02.row.toRowW.prog.main.body } }
section
local macro_rules | `(tactic| o_head $H) => `(tactic| (
  apply holds_open (q := Mine.view) (loose := [Str.ofString "LedgerError", Str.ofString "KeyFile"]) (Xt := fun s => xlAt Mine.view [] s && recOk (RowW.records PySem.Challenge.rw_pc0127_02.row.toRowW) s) (XP := XL Mine.view []) (Yf := Hook.obs $H) (Ya := Hook.val $H) (YP := Hook.says $H) (N := 3148) (hY := Hook.of $H) (hYk := Hook.keeps $H) (hX := fun s e => xl_of s (Bool.and_eq_true_iff.mp e).1) (hXk := XL.keeps) (hdef := by rfl) (hp := by rfl) (hk := by rfl) (hRf := fun s e => recFacts_of (Bool.and_eq_true_iff.mp e).2) (hwr := by rfl) (k1 := by first | assumption | decide +kernel) (ok := by decide +kernel) (hb := ⟨rfl, rfl, rfl, rfl, rfl, by decide +kernel⟩)
  focus (intro w; kernel_rfl!)))
open_top hd for PySem.Challenge.rw_pc0127_02
end
theorem calm : True := by
  w_top off
  trivial
/-! ## contracts -/
/-- the contract of a def of the text: from any frame with this ledger, the call comes back -/
def Sp (w : World) (mean : ExcName → Option Value) (mg mb : Str → Option Value) (f : Addr) (args : List Value) (dp un : Nat) (news : Led) (Post : Value → Led → Prop) : Prop :=
  ∀ (d u : Nat) (gd : Option (List Code)) (cn : Str) (cs : Scope) (a : Addr) (ccd : Value) (cl : List (Str × Addr)) (outer : List Env) (A₀ : Around) (base h₀ : Heap) (L : Addr) (m : Str → Option Value) (s : Shared)
    (Q E : Value → Shared → Prop),
    Below A₀ base outer h₀ → Fr h₀ L s.heap m → (hd.heap_39 w.params).In h₀ → News h₀ L s.heap news → Top view (looseW view [Str.ofString "LedgerError", Str.ofString "KeyFile"]) mean mg mb h₀ → cs.kind = .function →
    d + dp < recursionLimit → u + un < cLine →
    (∀ r news' h' tk', Fr h₀ L h' m → News h₀ L h' news' → Post r news' → Q r { s with heap := h', toks := tk' }) →
    wpAny (model Challenge.rw_pc0127_02.row.prog w) (ktrTop d u gd cn cs L a ccd cl outer) (call (.ref f) args) Q E s
section
variable {w : World} {mean : ExcName → Option Value} {mg mb : Str → Option Value} {f : Addr} {args : List Value} {dp un : Nat} {news : Led} {Post : Value → Led → Prop}
theorem Sp.use (C : Sp w mean mg mb f args dp un news Post) {d u : Nat} {gd : Option (List Code)} {cn : Str} {cs : Scope} {a : Addr} {ccd : Value} {cl : List (Str × Addr)} {outer : List Env} {A₀ : Around} {base h₀ : Heap} {L : Addr} {m : Str → Option Value} {s : Shared}
    {Q E : Value → Shared → Prop} (B : Below A₀ base outer h₀) (F : Fr h₀ L s.heap m) (X : (hd.heap_39 w.params).In h₀) (N : News h₀ L s.heap news) (T : Top view (looseW view [Str.ofString "LedgerError", Str.ofString "KeyFile"]) mean mg mb h₀) (hk : cs.kind = .function)
    (hd : d + dp < recursionLimit) (hu : u + un < cLine)
    (ret : ∀ r news' h' tk', Fr h₀ L h' m → News h₀ L h' news' → Post r news' → Q r { s with heap := h', toks := tk' }) :
    wpAny (model Challenge.rw_pc0127_02.row.prog w) (ktrTop d u gd cn cs L a ccd cl outer) (call (.ref f) args) Q E s :=
  C _ _ _ _ _ _ _ _ _ _ _ _ _ _ _ _ _ B F X N T hk hd hu ret
end
/-- a mark at which the steps halt -/
def Stop (P : Prop) : Prop := P
theorem stop_ {P : Prop} (h : Stop P) : P := h
theorem Stop.go {P : Prop} (h : P) : Stop P := h
section
variable {prog : Program} {w : World} {A : Around} {E : Value → Shared → Prop} {s : Shared} {value slice : PySem.Expr} {h₀ : Heap} {L : Addr} {m : Str → Option Value} {news : Led} {Q : Value → Shared → Prop}
theorem item_led {l : Addr} {vs : List Value} {n : Nat} {k : Int} {u : Tok} {v : Value}
    (N : News h₀ L s.heap news) (hl : (l, listOf vs.toArray n) ∈ news) (h0 : 0 ≤ k) (hv : vs[k.toNat]? = some v) (hhi : k < 2 ^ 40) (h : Q v s)
    (hs : subscripted slice false (.ref l) (.int k u) = operate [.ref l, .int k u] (getItem (.ref l) (.int k u)) := by with_unfolding_all rfl) :
    wpAny (model prog w) A (subscriptTail value slice (.ref l) (.int k u)) Q E s := by
  have hls : s.heap.IsList l vs.toArray := ⟨_, (N _ hl).1, rfl, n, rfl⟩
  exact tail_any hls.typeIs slot_list_getitem.lookup (wpAny_getItem_list hls h0 (by omega) (by simpa using hv) h) hs
theorem slice_by {b : By} {t : Tok} {l u : Value} {lo hi : Option Int}
    (hF : Fr h₀ L s.heap m) (hN : News h₀ L s.heap news) (hl : IsPart l lo) (hu : IsPart u hi) (hz : b.size < 10000)
    (h : ∀ h' t' k, Fr h₀ L h' m → News h₀ L h' news → Q (.bytes (KBy.picked b lo hi) t') { s with heap := h', toks := k })
    (hs : subscripted slice false (.bytes b t) (.ref s.heap.objs.size) = operate [.ref s.heap.objs.size, .bytes b t] (getItem (.bytes b t) (.ref s.heap.objs.size)) := by with_unfolding_all rfl)
    (ht : ∀ r, letTemporaryGo value (.bytes b t) r = pure () := by intro _; with_unfolding_all rfl) :
    wpAny (model prog w) A (subscriptTail value slice (.bytes b t) (.ref s.heap.objs.size)) Q E { s with heap := s.heap.push { cls := .type "slice", data := .fields #[l, u, .none] } } :=
  KBc.slice_K hF hN rfl hl hu (by rw [KBw.ints_length]; omega) (fun h' t' k F N _ => h h' t' k F N) hs ht
theorem len_led {l : Addr} {vs : List Value} {n : Nat} (N : News h₀ L s.heap news) (hl : (l, listOf vs.toArray n) ∈ news) (hz : vs.length < 10000)
    (h : Q (.int (vs.length : Int) (s.toks + 1)) { s with toks := s.toks + 1 + 1 }) : wpAny (model prog w) A (call (.builtin "len") [.ref l]) Q E s := kst_len N hl rfl (by omega) h
end
/-- the dict of the file's object -/
abbrev kfd (H : Nat → Int) (T : Nat → Tok) (c : Addr) (md ac : Value) (kl st : Addr) (ns wh : Value) (at_ : Addr) (nw rl hi : Value) : Obj := dictOf [
  ⟨H 0, .str (Str.ofString "content") (T 0), .ref c⟩, ⟨H 1, .str (Str.ofString "mode") (T 1), md⟩, ⟨H 2, .str (Str.ofString "access") (T 2), ac⟩, ⟨H 3, .str (Str.ofString "keys") (T 3), .ref kl⟩,
  ⟨H 4, .str (Str.ofString "stamps") (T 4), .ref st⟩, ⟨H 5, .str (Str.ofString "next_stamp") (T 5), ns⟩, ⟨H 6, .str (Str.ofString "which") (T 6), wh⟩, ⟨H 7, .str (Str.ofString "at") (T 7), .ref at_⟩,
  ⟨H 8, .str (Str.ofString "is_nowhere") (T 8), nw⟩, ⟨H 9, .str (Str.ofString "read_last") (T 9), rl⟩, ⟨H 10, .str (Str.ofString "highest") (T 10), hi⟩] 11
/-- a key's row in the ledger -/
def KeyIn (news : Led) (v : Value) (k : Int × Int × Bool) : Prop := ∃ a t1 t2 n, v = .ref a ∧ (a, tupOf #[.int k.1 t1, .int k.2.1 t2, .bool k.2.2] n) ∈ news
/-- a row of stamps: so many times the one int -/
def StIn (q : Nat) (news : Led) (v : Value) (s : Int) : Prop := ∃ a us n, v = .ref a ∧ (a, listOf (us : List Value).toArray n) ∈ news ∧ us.length = q ∧ ∀ u ∈ us, ∃ t, u = .int s t
/-- the part of a record that a key tells -/
def wor (k : Int × Int × Bool) (b : By) : By := KBy.picked b (some k.1) (some (k.1 + k.2.1))
theorem RoEnd.ret {h₀ : Heap} {L : Addr} {x : Str} {m₀ : Vars} {nx : Led} {P : Prop} {s s₂ : Shared} {Q : Flow → Shared → Prop} {v : Value} (h : Q (.ret v) s₂) : RoEnd h₀ L x m₀ nx P s Q (.ret v) s₂ := h
theorem newsSub {h₀ : Heap} {L : Addr} {h : Heap} {news nx : Led} (N : News h₀ L h nx) (hs : ∀ p ∈ news, p ∈ nx) : News h₀ L h news := fun p hp => N p (hs p hp)
theorem my_mem {p : Addr × Obj} {l : Led} (h : p ∈ l) : List.Mem p l := h
theorem off_and {P : Prop} {D : Addr} {rest : Led} (h : P ∧ AllLt D rest) : ∀ p ∈ rest, p.1 ≠ D := fun p hp => Nat.ne_of_lt (kst_ltOf h.2 p hp)
/-- a row's key: what the record shows at this key, and its stamp -/
def kkey (k : Int × Int × Bool) (cs : List By) (S : List Int) (i : Nat) : By × Int := (wor k (cs.getD i #[]), S.getD i 0)
/-- a row that «ordered» makes -/
def ORow (led : Led) (g : Nat → By × Int) (v : Value) (i : Nat) : Prop := ∃ a t u x n, v = .ref a ∧ (a, tupOf #[.bytes (g i).1 t, .int (g i).2 u, .int (i : Int) x] n) ∈ led
theorem ORow.mono {led led' : Led} {g : Nat → By × Int} {v : Value} {i : Nat} (h : ORow led g v i) (hs : ∀ p ∈ led, p ∈ led') : ORow led' g v i := let ⟨a, t, u, x, n, e, hm⟩ := h; ⟨a, t, u, x, n, e, hs _ hm⟩
theorem KeyIn.mono {led led' : Led} {v : Value} {k : Int × Int × Bool} (h : KeyIn led v k) (hs : ∀ p ∈ led, p ∈ led') : KeyIn led' v k := let ⟨a, t1, t2, n, e, hm⟩ := h; ⟨a, t1, t2, n, e, hs _ hm⟩
theorem StIn.mono {q : Nat} {led led' : Led} {v : Value} {k : Int} (h : StIn q led v k) (hs : ∀ p ∈ led, p ∈ led') : StIn q led' v k := let ⟨a, us, n, e, hm, r⟩ := h; ⟨a, us, n, e, hs _ hm, r⟩
theorem BuildEnd.next {h₀ : Heap} {L : Addr} {x : Str} {m₀ m' : Vars} {fl : Addr} {vs : List Value} {rest : Led} {R : Led → Value → Prop} {s : Shared} {Q : Flow → Shared → Prop} {h' : Heap} {tk' : Nat} {a : Addr} {o : Obj} {v : Value} {c' : Nat}
    (F : Fr h₀ L h' m') (N : News h₀ L h' ((a, o) :: (fl, listOf (vs ++ [v]).toArray c') :: rest)) (hm : ∀ z, z ≠ x → m' z = m₀ z) (hv : R [(a, o)] v) (ho : o.cls = .type "tuple") (ha : a ≠ fl) (hq : ∀ q ∈ rest, q.1 ≠ a) :
    BuildEnd h₀ L x m₀ fl vs rest R s Q .next { s with heap := h', toks := tk' } := ⟨h', tk', m', v, a, o, c', rfl, F, hm, N, hv, ho, ha, hq⟩
theorem off_all {D : Addr} {rest : Led} (h : ∀ p ∈ rest, p.1 < D) : ∀ p ∈ rest, p.1 ≠ D := fun p hp => Nat.ne_of_lt (h p hp)
theorem keys_cons {l : Led} {p : Addr × Obj} {vk : List Value} {ks : List (Int × Int × Bool)} (h : All2 (KeyIn l) vk ks) : All2 (KeyIn (p :: l)) vk ks := h.mono fun _ _ q => q.mono fun _ hp => List.mem_cons_of_mem _ hp
theorem stamps_cons {q : Nat} {l : Led} {p : Addr × Obj} {vk : List Value} {S : List Int} (h : All2 (StIn q l) vk S) : All2 (StIn q (p :: l)) vk S := h.mono fun _ _ q => q.mono fun _ hp => List.mem_cons_of_mem _ hp
theorem ORow.row {led : Led} {g : Nat → By × Int} {v : Value} {i : Nat} (h : ORow led g v i) : RowIn led v (g i) := let ⟨a, t, u, x, n, e, hm⟩ := h; ⟨a, _, t, u, n, e, hm⟩
theorem RowIn.mono {led led' : Led} {v : Value} {k : By × Int} (h : RowIn led v k) (hs : ∀ p ∈ led, p ∈ led') : RowIn led' v k := let ⟨a, x, t, u, n, e, hm⟩ := h; ⟨a, x, t, u, n, e, hs _ hm⟩
theorem All2.map_right {α β γ : Type} {P : α → β → Prop} {R : α → γ → Prop} {vs : List α} {ks : List β} {g : β → γ} (h : All2 P vs ks) (hp : ∀ v k, P v k → R v (g k)) : All2 R vs (ks.map g) :=
  ⟨by rw [List.length_map]; exact h.len, fun i v k a b => by
    rw [List.getElem?_map] at b
    cases e : ks[i]? with
    | none => rw [e] at b; cases b
    | some j => rw [e] at b; simp only [Option.map_some, Option.some.injEq] at b; subst b; exact hp _ _ (h.at_ i v j a e)⟩
theorem range_pick {n : Nat} {p : List Nat} (hp : p.Perm (List.range n)) : (p.map fun i => (List.range n).getD i 0) = p := by
  have : ∀ i ∈ p, (List.range n).getD i 0 = i := fun i hi => by
    have := List.mem_range.mp (hp.mem_iff.mp hi)
    simp [this]
  rw [List.map_congr_left this]; simp
theorem kkey_snd {k : Int × Int × Bool} {cs : List By} {S : List Int} (h : S.length = cs.length) : ((List.range cs.length).map (kkey k cs S)).map (·.2) = S := by
  rw [← h]
  apply List.ext_getElem?
  intro i
  by_cases hi : i < S.length
  · simp [kkey, hi]
  · simp [Nat.le_of_not_lt hi]
theorem kkey_pick {k : Int × Int × Bool} {cs : List By} {S : List Int} {p : List Nat} (hp : p.Perm (List.range cs.length)) : (p.map fun i => ((List.range cs.length).map (kkey k cs S)).getD i (#[], 0)) = p.map (kkey k cs S) := by
  refine List.map_congr_left fun i hi => ?_
  have := List.mem_range.mp (hp.mem_iff.mp hi)
  simp [this]
theorem lt_of_pick {n : Nat} {p : List Nat} (hp : p.Perm (List.range n)) : ∀ i ∈ p, i < n := fun _ hi => List.mem_range.mp (hp.mem_iff.mp hi)
theorem off_up {D D' : Addr} {rest : Led} (h : ∀ p ∈ rest, p.1 < D) (hd : D ≤ D') : ∀ p ∈ rest, p.1 ≠ D' := fun p hp => Nat.ne_of_lt (Nat.lt_of_lt_of_le (h p hp) hd)
theorem tail_all {P : Addr × Obj → Prop} {q : Addr × Obj} {rest : Led} (h : ∀ p ∈ q :: rest, P p) : ∀ p ∈ rest, P p := fun p hp => h p (List.mem_cons_of_mem _ hp)

/-- new objects, off all that was -/
def Fresh (extra l : Led) : Prop := ∀ e ∈ extra, ∀ p ∈ l, p.1 ≠ e.1
theorem Fresh.nil {l : Led} : Fresh [] l := fun _ h => nomatch h
section
variable {w : World} {mean : ExcName → Option Value} {mg mb : Str → Option Value} {f : Addr} {args : List Value} {dp un : Nat} {news : Led}
theorem Sp.sub {l : Led} {Post : Value → Led → Prop} (C : Sp w mean mg mb f args dp un l Post) (hs : ∀ p ∈ l, p ∈ news) : Sp w mean mg mb f args dp un news Post :=
  fun d u gd cn cs a ccd cl outer A₀ base h₀ L m s Q E B F X N T hk hd hu ret => C d u gd cn cs a ccd cl outer A₀ base h₀ L m s Q E B F X (newsSub N hs) T hk hd hu ret
theorem Sp.mono {Post Post' : Value → Led → Prop} (C : Sp w mean mg mb f args dp un news Post) (hp : ∀ r nw, Post r nw → ∃ nw', Post' r nw' ∧ ∀ p ∈ nw', p ∈ nw) : Sp w mean mg mb f args dp un news Post' :=
  fun d u gd cn cs a ccd cl outer A₀ base h₀ L m s Q E B F X N T hk hd hu ret => C d u gd cn cs a ccd cl outer A₀ base h₀ L m s Q E B F X N T hk hd hu fun r nw h' tk' F' N' P => let ⟨nw', P', hs⟩ := hp r nw P; ret r nw' h' tk' F' (newsSub N' hs) P'
/-- one object of the ledger changes -/
theorem Sp.upd {d : Addr} {D : Obj} {g : Obj → Led} {P : Value → Led → Obj → Prop} (U : UpdF d D news g)
    (C : ∀ rest, (∀ p ∈ rest, p.1 ≠ d) → (∀ p ∈ news, p.1 ≠ d → p ∈ rest) → Sp w mean mg mb f args dp un ((d, D) :: rest) (fun r nw => ∃ extra D', nw = extra ++ (d, D') :: rest ∧ Fresh extra ((d, D) :: rest) ∧ P r extra D')) :
    Sp w mean mg mb f args dp un news (fun r nw => ∃ extra D', nw = extra ++ g D' ∧ Fresh extra news ∧ P r extra D') := by
  obtain ⟨pre, post, rfl, hg, h1, h2⟩ := U.split
  refine Sp.mono (Sp.sub (C (pre ++ post) (fun p hp => (List.mem_append.mp hp).elim (h1 p) (h2 p)) fun p hp hne => ?_) fun p hp => ?_) fun r nw ⟨extra, D', e, fr, hP⟩ => ⟨extra ++ g D', ⟨extra, D', rfl, fun x hx p hp => ?_, hP⟩, fun p hp => ?_⟩
  · rcases List.mem_append.mp hp with hp | hp
    · exact List.mem_append_left _ hp
    · rcases List.mem_cons.mp hp with rfl | hp
      · exact absurd rfl hne
      · exact List.mem_append_right _ hp
  · rcases List.mem_cons.mp hp with rfl | hp
    · exact List.mem_append_right _ List.mem_cons_self
    · rcases List.mem_append.mp hp with hp | hp
      · exact List.mem_append_left _ hp
      · exact List.mem_append_right _ (List.mem_cons_of_mem _ hp)
  · rcases List.mem_append.mp hp with hp | hp
    · exact fr x hx p (List.mem_cons_of_mem _ (List.mem_append_left _ hp))
    · rcases List.mem_cons.mp hp with rfl | hp
      · exact fr x hx (d, D) List.mem_cons_self
      · exact fr x hx p (List.mem_cons_of_mem _ (List.mem_append_right _ hp))
  · rw [hg] at hp
    rw [e]
    rcases List.mem_append.mp hp with hp | hp
    · exact List.mem_append_left _ hp
    · rcases List.mem_append.mp hp with hp | hp
      · exact List.mem_append_right _ (List.mem_cons_of_mem _ (List.mem_append_left _ hp))
      · rcases List.mem_cons.mp hp with rfl | hp
        · exact List.mem_append_right _ List.mem_cons_self
        · exact List.mem_append_right _ (List.mem_cons_of_mem _ (List.mem_append_right _ hp))
end
/-- the ledger less an address -/
def offL (d : Addr) (l : Led) : Led := l.filter fun p => decide (p.1 ≠ d)
section
variable {prog : Program} {w : World} {A : Around} {E : Value → Shared → Prop} {s : Shared} {Q : Value → Shared → Prop}
theorem add_by {b c : By} {t u : Tok} (hz : b.size < 100000) (hz2 : c.size < 100000) (h : ∀ t' k, Q (.bytes (b ++ c) t') { s with toks := k }) : wpAny (model prog w) A (binaryOp .Add (.bytes b t) (.bytes c u)) Q E s :=
  KBa.add_K rfl rfl (by rw [KBw.ints_length, KBw.ints_length]; omega) fun t' k _ => h t' k
end
theorem wor_size (k : Int × Int × Bool) (b : By) : (wor k b).size ≤ b.size := KBc.size_picked_le b _ _
theorem app_swap {l l' : Led} : ∀ p ∈ l ++ l', p ∈ l' ++ l := fun _ hp => (List.mem_append.mp hp).elim (List.mem_append_right _) (List.mem_append_left _)
theorem my_memL {p : Addr × Obj} {l l' : Led} (h : List.Mem p l) : List.Mem p (l ++ l') := List.mem_append_left _ h
theorem all_app {P : Addr × Obj → Prop} {l l' : Led} (h : ∀ p ∈ l, P p) (h' : ∀ p ∈ l', P p) : ∀ p ∈ l ++ l', P p := fun p hp => (List.mem_append.mp hp).elim (h p) (h' p)
theorem keys_sub {l l' : Led} {vk : List Value} {ks : List (Int × Int × Bool)} (h : All2 (KeyIn l) vk ks) (hs : ∀ p ∈ l, p ∈ l') : All2 (KeyIn l') vk ks := h.mono fun _ _ q => q.mono hs
theorem stamps_sub {q : Nat} {l l' : Led} {vk : List Value} {S : List Int} (h : All2 (StIn q l) vk S) (hs : ∀ p ∈ l, p ∈ l') : All2 (StIn q l') vk S := h.mono fun _ _ q => q.mono hs
theorem my_memS {p : Addr × Obj} {l nx : Led} (hs : ∀ q ∈ l, q ∈ nx) (h : List.Mem p l) : List.Mem p nx := hs p h
theorem srcAt_led {h₀ : Heap} {a : Addr} {its : Array Value} {n : Nat} {l : Led} (h : (a, listOf its n) ∈ l) : PyProof.Rows.LCg.SrcAt h₀ a its l := .inr ⟨_, h, rfl, n, rfl⟩
theorem and_tt {p q : Prop} [Decidable p] [Decidable q] (h : p) (k : q) : (decide p && decide q) = true := by simp [h, k]
theorem and_ff1 {p q : Prop} [Decidable p] [Decidable q] (h : ¬p) : (decide p && decide q) = false := by simp [h]
theorem and_ff2 {p q : Prop} [Decidable p] [Decidable q] (k : ¬q) : (decide p && decide q) = false := by simp [k]
/-- is row j behind row i, with the same key -/
def isLater (k : Int × Int × Bool) (cs : List By) (S : List Int) (i j : Nat) : Bool := decide ((kkey k cs S j).1 = (kkey k cs S i).1) && decide ((kkey k cs S i).2 < (kkey k cs S j).2)
def later (k : Int × Int × Bool) (cs : List By) (S : List Int) (i : Nat) : Bool := (List.range cs.length).any (isLater k cs S i)
theorem later_of {R : Value → Nat → Prop} {k : Int × Int × Bool} {cs : List By} {S : List Int} {i : Nat} {p : List Nat} {ys : List Value} (hy : All2 R ys (p.filter (isLater k cs S i))) (hp : p.Perm (List.range cs.length)) : decide (ys.toArray.size = 0) = !later k cs S i := by
  rw [List.size_toArray, hy.len]
  have e : later k cs S i = p.any (isLater k cs S i) := by
    unfold later
    rw [Bool.eq_iff_iff, List.any_eq_true, List.any_eq_true]
    constructor <;> rintro ⟨j, hj, h⟩
    · exact ⟨j, hp.mem_iff.mpr hj, h⟩
    · exact ⟨j, hp.mem_iff.mp hj, h⟩
  rw [e, Bool.eq_iff_iff]
  simp only [decide_eq_true_eq, Bool.not_eq_true', List.length_eq_zero_iff, List.filter_eq_nil_iff, List.any_eq_false]
/-- the status of a row found -/
def fstat (k : Int × Int × Bool) (cs : List By) (S : List Int) (wi : Int) (i : Nat) : Str := if 0 < wi ∧ later k cs S i = true then Str.ofString "02" else Str.ofString "00"
/-- where the file stands behind a row found -/
def fat (k : Int × Int × Bool) (cs : List By) (S : List Int) (wi : Int) (i : Nat) : By × Int := if 0 < wi then kkey k cs S i else ((kkey k cs S i).1 ++ #[0], -1)
section
variable {k : Int × Int × Bool} {cs : List By} {S : List Int} {wi : Int} {i : Nat} {n : Prop} [Decidable n]
theorem fst_02 (h : 0 < wi) (hl : decide n = !later k cs S i) (hn : ¬n) : fstat k cs S wi i = Str.ofString "02" := by
  rw [decide_eq_false hn] at hl
  unfold fstat
  rw [if_pos ⟨h, by simpa using hl.symm⟩]
theorem fst_00 (hl : decide n = !later k cs S i) (hn : n) : fstat k cs S wi i = Str.ofString "00" := by
  rw [decide_eq_true hn] at hl
  unfold fstat
  rw [if_neg fun q => by rw [q.2] at hl; cases hl]
theorem fst_0 (h : ¬0 < wi) : fstat k cs S wi i = Str.ofString "00" := if_neg fun q => h q.1
theorem fat_1 (h : 0 < wi) : fat k cs S wi i = kkey k cs S i := if_pos h
theorem fat_0 (h : ¬0 < wi) : fat k cs S wi i = ((kkey k cs S i).1 ++ #[0], -1) := if_neg h
end
section
variable {prog : Program} {w : World} {A : Around} {E : Value → Shared → Prop} {s : Shared} {Q : Value → Shared → Prop}
theorem notIn_ff {a : Addr} {x p q : Str} {t t1 t2 : Tok} {n : Nat} (ha : s.heap.get? a = some (⟨.type "tuple", none, .seq #[.str p t1, .str q t2] n, #[]⟩ : Obj)) (hm : (decide (p = x) || decide (q = x)) = true) (h : Q (.bool false) s) :
    wpAny (model prog w) A (compareOp .NotIn (.str x t) (.ref a)) Q E s := notIn_two ha (by rw [hm]; exact h)
theorem eq_str_ff {x y : Str} {t u : Tok} (hne : x ≠ y) (h : Q (.bool false) s) : wpAny (model prog w) A (compareOp .Eq (.str x t) (.str y u)) Q E s := PyProof.Rows.eq_str (by rw [show (x == y) = false from beq_eq_false_iff_ne.mpr hne]; exact h)
theorem eq_str_tt {x : Str} {t u : Tok} (h : Q (.bool true) s) : wpAny (model prog w) A (compareOp .Eq (.str x t) (.str x u)) Q E s := PyProof.Rows.eq_str (by rw [beq_self_eq_true]; exact h)
end
/-- the row that a reading in order gives next: the least above where the file stands -/
def Nxt (k : Int × Int × Bool) (cs : List By) (S : List Int) (a : By × Int) (i : Nat) : Prop := i < cs.length ∧ rowLt a (kkey k cs S i) = true ∧ ∀ j, j < cs.length → rowLt a (kkey k cs S j) = true → j = i ∨ rowLt (kkey k cs S i) (kkey k cs S j) = true
theorem tup_dict : Value.type "tuple" ≠ Value.type "dict" := by decide
local macro_rules | `(tactic| walk_at $s:str) => `(tactic| k_extra $s)
local macro_rules | `(tactic| k_all) => `(tactic| k_extra "my all")
local macro_rules | `(tactic| k_mem) => `(tactic| k_extra "my memb")
local macro_rules | `(tactic| k_updF) => `(tactic| k_extra "my updF")
local macro_rules | `(tactic| k_upd) => `(tactic| k_extra "my upd")
theorem wdF1 : True := by
  k_with "my use" => ((case B | F | X | N | T => k_asm); (case hk => first | exact rfl | assumption))
  k_with "my tidy" => ((try dsimp only); (try k_sweep); (try k_fold))
  k_with "my ent" => ((case hA | hf => exact rfl); (case hke => first | exact rfl | assumption); (case B | F | X₀ | N | T => k_asm); (case ho | hcd => k_is); (case hroom => ktr_room); (case hbind => first | exact BindsTo.of_eq rfl | exact binds_K (by k_in) rfl (by k_is) rfl rfl rfl))
  k_with "my all" => first | assumption | kst_allNe
  k_with "exec For Name Call cons nil" => refine stop_ ?_
  k_with "exec For Name Name cons nil" => refine stop_ ?_
  k_with "exec For Name Subscript cons nil" => refine stop_ ?_
  k_with "exec For Tuple Call cons nil" => refine stop_ ?_
  k_with "pyIter ref" => refine stop_ ?_
  k_with "call builtin:sorted" => refine stop_ ?_
  k_with "eval ListComp" => refine stop_ ?_
  k_with "exec Assign cons ListComp" => refine stop_ ?_
  k_with "subscriptTail" => (k_here; (with_reducible show wpAny _ _ (subscriptTail _ _ (Value.ref _) (Value.int _ _)) _ _ _); (with_unfolding_all apply item_led; (case N => k_asm); (case hl => k_mem); (case h0 => first | assumption | omega); (case hv => assumption); (case hhi => omega); (case hs => with_unfolding_all rfl); k_whole))
  k_with "subscriptTail" => (k_here; (with_reducible show wpAny _ _ (subscriptTail _ (Expr.Slice _ _ none _) (Value.bytes _ _) (Value.ref _)) _ _ _); (with_reducible rename Fr _ _ _ _ => Fw9); (with_reducible rename News _ _ _ _ => Nw9); (refine slice_by (s := ⟨_, _, _, _, _⟩) Fw9 Nw9 (by constructor) (by constructor) (by first | assumption | exact Nat.le_of_ble_eq_true rfl) ?_); intro hw9 tw9 kw9 Fw9 Nw9; (try k_sweep))
  k_with "call builtin:len" => (k_here; (with_reducible show wpAny _ _ (call (Value.builtin "len") [Value.ref _]) _ _ _); k_dflt (apply len_led; (case N => k_asm); (case hl => k_mem); (case hz => first | assumption | omega); k_whole))
  k_with "compareOp Eq bytes bytes" => refine eq_by ?_
  k_with "compareOp NotEq bytes bytes" => refine ne_by ?_
  k_with "compareOp Lt bytes bytes" => refine lt_by ?_
  k_with "compareOp LtE bytes bytes" => refine le_by ?_
  k_with "compareOp Gt bytes bytes" => refine gt_by ?_
  k_with "compareOp GtE bytes bytes" => refine ge_by ?_
  k_with "my for" => (refine Stop.go ?_; (rename Fr _ _ _ _ => Fw9); (with_unfolding_all apply For_invVF Fw9; (case hx | hp => exact rfl)); (try k_fold); k_steps; refine Stop.go ?_)
  k_with "RoEnd" => refine RoEnd.ret ?_
  k_with "my memb" => (refine my_mem ?_; ktr_member)
  k_with "my enterC" => (apply code_defC; walk_at "my ent"; (case hkind => exact rfl); (case hnd => decide +kernel); (case hco | hgen | hk => exact rfl); k_whole; intro gw9 Lw9 hw9 tkw9 cew9 FGw9 Fw9 Nw9 Yw9 Bw9 Xw9 Tw9 lw1; (have lw2 := off_up lw1 (Nat.le_add_right Lw9 1)); (have lw3 := off_up lw1 (Nat.le_add_right Lw9 2)); (have lw4 := off_up lw1 (Nat.le_add_right Lw9 3)); (try have lw5 := tail_all lw2); (try have lw6 := tail_all lw3); (try k_lt lw1); k_cells Yw9; (try simp only [List.cons_append, List.nil_append] at Nw9); (try dsimp only); (try k_fold))
  k_with "binaryOp Add bytes bytes" => (k_here; (refine add_by (by first | assumption | decide | omega) (by first | assumption | decide | omega) ?_); intro tw9 kw9)
  k_with "compareOp Gt ref ref" => (k_here; k_dflt (apply gt_pair; (case N => k_asm); (case ha => k_mem); (case hb => k_mem); (case hu => ktr_units); k_whole))
  k_with "compareOp NotEq ref ref" => (k_here; k_dflt (apply ne_nil; (case N => k_asm); (case ha => k_mem); (case hb => k_mem); (case hu => ktr_units); k_whole))
  k_with "compareOp Eq ref ref" => (k_here; k_dflt (apply eq_nil; (case N => k_asm); (case ha => k_mem); (case hb => k_mem); (case hu => ktr_units); k_whole))
  k_with "my memb" => (refine my_memL ?_; k_mem)
  k_with "my in" => first | assumption | (refine List.mem_cons_of_mem _ ?_; walk_at "my in") | (refine List.mem_append_left _ ?_; walk_at "my in") | (refine List.mem_append_right _ ?_; walk_at "my in")
  k_with "my sub" => first | exact fun _ h9 => h9 | (intro p9 h9; walk_at "my in")
  k_with "my keys" => first | assumption | (refine keys_sub (by assumption) ?_; walk_at "my sub")
  k_with "my stamps" => first | assumption | (refine stamps_sub (by assumption) ?_; walk_at "my sub")
  k_with "CompSrcT" => refine stop_ ?_
  k_with "CompSrc" => refine stop_ ?_
  k_with "my assignT" => (refine Stop.go ?_; k_dflt (refine LCt.Assign_ListComp_T (F₀ := by k_asm) (by rfl) (by with_unfolding_all rfl) (by with_unfolding_all rfl) (by decide) (by rfl) (by decide) (by rfl) (by rfl) (by rfl) ?_); (try k_fold); k_steps; refine Stop.go ?_)
  k_with "my memb" => (refine my_memS (by assumption) ?_; k_mem)
  k_with "my mem" => first | exact List.Mem.head _ | (refine List.Mem.tail _ ?_; walk_at "my mem") | (refine my_memL ?_; walk_at "my mem") | assumption
  k_with "my subs" => first | exact List.forall_mem_nil _ | (refine List.forall_mem_cons.mpr ⟨?_, ?_⟩; (focus walk_at "my mem"); walk_at "my subs") | walk_at "my sub"
  k_with "compareOp Eq str str" => first | refine eq_str_tt ?_ | refine eq_str_ff (by assumption) ?_
  k_with "compareOp NotIn str ref" => (k_here; k_dflt (apply notIn_ff (p := Str.ofString "input") (q := Str.ofString "i-o"); (case ha => exact (by k_in : Frag.In _ _) _ _ (by k_is)); (case hm => assumption); k_whole))
  k_with "my enterD" => (apply code_def; walk_at "my ent"; (case hcell => decide); (case hloc => exact locs rfl); (case hco | hgen | hk => exact rfl); k_whole; intro gw9 Lw9 hw9 FGw9 Fw9 Nw9 Bw9 Xw9 Tw9; (try dsimp only); (try k_fold))
  k_with "RoEnd2" => refine RoEnd2.ret ?_
  k_with "my compU" => (refine Stop.go ?_; k_dflt (refine LCg.ListComp_U (F₀ := by k_asm) (by with_unfolding_all rfl) (by decide) (by rfl) (by decide) (by rfl) ?_); (try k_fold); k_steps; refine Stop.go ?_)
  k_with "my rangeU" => (refine LCg.CompSrc.range (by rfl) (by k_asm) (by k_asm) (by assumption) (by first | decide | exact small_one (by omega) (by omega) (by omega) (by omega)) (by first | exact rangeSize_nat _ _ | rfl) (by rw [sizeLine_eq]; omega) ?_)
  k_with "my updF" => (with_reducible refine' updF_app ?_ ?_; (focus assumption); k_updF)
  k_with "my upd" => (with_reducible refine' upd_app ?_ ?_; (focus assumption); k_upd)
  k_with "my in" => exact mem_sw (by assumption)
  k_with "RoEndP" => refine RoEndP.ret ?_
  k_with "MEnd" => refine MEnd.ret ?_
  k_with "compareOp In bytes ref" => (k_here; k_dflt (apply in_bys; (case N => k_asm); (case ha => k_mem); (case hx => assumption); k_whole))
  k_with "my ledgerU" => (refine LCg.CompSrc.ledger (by rfl) (by k_asm) (by k_asm) (by k_mem) (by rw [sizeLine_eq, List.size_toArray]; omega) ?_)
  k_with "call type:enumerate" => refine stop_ ?_
  k_with "my enE" => (refine Stop.go ?_; k_dflt (refine en_ListComp (by with_unfolding_all rfl) (by rfl) (by decide) ?_); (try k_fold); k_steps; refine Stop.go ?_)
  k_with "my enA" => (refine Stop.go ?_; k_dflt (refine en_Assign (by with_unfolding_all rfl) (by with_unfolding_all rfl) (by rfl) (by decide) ?_); (try k_fold); k_steps; refine Stop.go ?_)
  k_with "my forE" => (refine Stop.go ?_; (rename Fr _ _ _ _ => Fw9); (with_unfolding_all apply For_turns Fw9); (try k_fold); k_steps; refine Stop.go ?_)
  trivial

theorem worth_c {w : World} {mean : ExcName → Option Value} {mg mb : Str → Option Value} {news : Led} {o dx c kl st at_ : Addr} {H : Nat → Int} {T : Nat → Tok} {md ac ns wh nw rl hi : Value} {nk : Nat} {vk : List Value} {ks : List (Int × Int × Bool)} {k : Int × Int × Bool} {r : By} {t t4 : Tok} {wi : Int}
    (ho : (o, instObj 199 dx) ∈ news) (hdx : (dx, kfd H T c md ac kl st ns wh at_ nw rl hi) ∈ news) (hkl : (kl, listOf vk.toArray nk) ∈ news) (hk : All2 (KeyIn news) vk ks) (hw0 : 0 ≤ wi) (hw1 : wi < 10) (hkw : ks[wi.toNat]? = some k) (hr : r.size < 10000) :
    Sp w mean mg mb 82 [.ref o, .bytes r t, .int wi t4] 5 50 news (fun x nw => ∃ t', x = .bytes (wor k r) t' ∧ nw = news) := by
  obtain ⟨v, hv, ka, t2, t3, kn, rfl, hka⟩ := hk.get hkw
  unfold Sp
  intro d u gd cn cs a ccd cl outer A₀ base h₀ L m s Q E B F X N T hck hd hu hret
  refine wpAny_call ?_
  k_dflt ktr_enter
  k_steps
  all_goals (refine hret _ _ _ _ (by k_asm) (by k_asm) ⟨_, rfl, rfl⟩)

theorem wdF2 : True := by
  k_with "call ref" => (k_here; (with_reducible show wpAny _ _ (call (Value.ref 82) _) _ _ _); (k_dflt (apply Sp.use; walk_at "my use"; (case C => (apply worth_c; (case ho | hdx | hkl => k_mem); (case hk => walk_at "my keys"); (case hw0 | hw1 => omega); (case hkw => first | assumption | exact rfl); (case hr => assumption))); (case hd => ktr_room); (case hu => ktr_units))); intro rw9 nww9 hw9 tkw9 Fw9 Nw9 hpw9; obtain ⟨t9w, e9w, e8w⟩ := hpw9; subst e9w; (replace e8w := Eq.symm e8w); subst e8w; walk_at "my tidy")
  trivial

theorem place_of_c {w : World} {mean : ExcName → Option Value} {mg mb : Str → Option Value} {news : Led} {o dx c kl st at_ : Addr} {H : Nat → Int} {T : Nat → Tok} {md ac ns wh nw rl hi : Value} {nk nc : Nat} {vk vc : List Value} {ks : List (Int × Int × Bool)} {k : Int × Int × Bool} {r : By} {cs : List By} {t : Tok}
    (ho : (o, instObj 199 dx) ∈ news) (hdx : (dx, kfd H T c md ac kl st ns wh at_ nw rl hi) ∈ news) (hkl : (kl, listOf vk.toArray nk) ∈ news) (hk : All2 (KeyIn news) vk ks) (hkw : ks[0]? = some k)
    (hc : (c, listOf vc.toArray nc) ∈ news) (hcs : All2 IsB vc cs) (hlen : cs.length < 64) (hsz : ∀ b ∈ cs, b.size < 10000) :
    Sp w mean mg mb 96 [.ref o, .bytes r t] 10 100 news (fun x nw => nw = news ∧ ((∃ i t', x = .int (i : Nat) t' ∧ i < cs.length ∧ (cs[i]?).map (wor k) = some r ∧ ∀ j, j < i → (cs[j]?).map (wor k) ≠ some r) ∨ (∃ t', x = .int (-1) t' ∧ ∀ b ∈ cs, wor k b ≠ r))) := by
  unfold Sp
  intro d u gd cn cs' a ccd cl outer A₀ base h₀ L m s Q E B F X N TT hck hd hu hret
  refine wpAny_call ?_
  have hvl : vc.length < 10000 := by have := hcs.len; omega
  k_dflt ktr_enter
  k_steps
  walk_at "my for"
  refine range_ro (n := vc.length) (fun i => ∀ j, j < i → (cs[j]?).map (wor k) ≠ some r) rfl (by assumption) (by omega) (by assumption) (by assumption) (fun j hj => absurd hj (Nat.not_lt_zero _)) ?_ ?_
  · intro i t9 h9 tk9 nx hi hP hsub F9 N9
    have ho' := hsub _ ho
    have hdx' := hsub _ hdx
    have hkl' := hsub _ hkl
    have hc' := hsub _ hc
    have hk' : All2 (KeyIn nx) vk ks := hk.mono fun v k ⟨a, t1, t2, n, e, hm⟩ => ⟨a, t1, t2, n, e, hsub _ hm⟩
    have hi' : i < cs.length := by rw [← hcs.len]; exact hi
    obtain ⟨v, hv, tb, rfl⟩ := hcs.get (List.getElem?_eq_getElem hi')
    have hv' : vc[(i : Int).toNat]? = some (.bytes cs[i] tb) := by simpa using hv
    have hb : (cs[i]).size < 10000 := hsz _ (List.getElem_mem _)
    have hkw' : ks[(0 : Int).toNat]? = some k := hkw
    k_steps
    · refine hret _ _ _ _ (by k_asm) (newsSub (by k_asm) hsub) ⟨rfl, .inl ⟨i, _, rfl, hi', ?_, hP⟩⟩
      rw [List.getElem?_eq_getElem hi']
      exact congrArg some (by assumption)
    · refine RoEnd.next (by assumption) (by assumption) (fun j hj => ?_) (fun z hz => by simp [hz])
      by_cases e : j = i
      · subst e
        rw [List.getElem?_eq_getElem hi']
        intro q
        exact absurd (Option.some.inj q) (by assumption)
      · exact hP j (by omega)
  · intro v' h9 tk9 hP F9 N9
    k_steps
    refine hret _ _ _ _ (by k_asm) (by k_asm) ⟨rfl, .inr ⟨_, rfl, fun b hb e => ?_⟩⟩
    obtain ⟨j, hj, rfl⟩ := List.mem_iff_getElem.mp hb
    exact hP j (by rw [hcs.len]; exact hj) (by rw [List.getElem?_eq_getElem hj]; exact congrArg some e)

theorem wdF3 : True := by
  k_with "call ref" => (k_here; (with_reducible show wpAny _ _ (call (Value.ref 96) _) _ _ _); refine stop_ ?_)
  trivial

theorem stand_c {w : World} {mean : ExcName → Option Value} {mg mb : Str → Option Value} {rest : Led} {o dx c kl st at_ at2 : Addr} {H : Nat → Int} {T : Nat → Tok} {md ac ns wh nw rl hi wv : Value}
    (ho : (o, instObj 199 dx) ∈ rest) (hoff : ∀ p ∈ rest, p.1 ≠ dx) :
    Sp w mean mg mb 110 [.ref o, wv, .ref at2] 5 50 ((dx, kfd H T c md ac kl st ns wh at_ nw rl hi) :: rest) (fun x nw' => x = .none ∧ nw' = (dx, kfd H T c md ac kl st ns wv at2 (.bool false) rl hi) :: rest) := by
  unfold Sp
  intro d u gd cn cs' a ccd cl outer A₀ base h₀ L m s Q E B F X N TT hck hd hu hret
  refine wpAny_call ?_
  k_dflt ktr_enter
  k_steps
  all_goals (refine hret _ _ _ _ (by k_asm) (by k_asm) ⟨rfl, rfl⟩)
theorem stand_u {w : World} {mean : ExcName → Option Value} {mg mb : Str → Option Value} {news : Led} {o dx c kl st at_ at2 : Addr} {H : Nat → Int} {T : Nat → Tok} {md ac ns wh nw rl hi wv : Value} {g : Obj → Led}
    (U : UpdF dx (kfd H T c md ac kl st ns wh at_ nw rl hi) news g) (ho : (o, instObj 199 dx) ∈ news) (hne : o ≠ dx) :
    Sp w mean mg mb 110 [.ref o, wv, .ref at2] 5 50 news (fun x nw' => x = .none ∧ nw' = g (kfd H T c md ac kl st ns wv at2 (.bool false) rl hi)) :=
  Sp.mono (Sp.upd U (P := fun x e D' => x = .none ∧ e = [] ∧ D' = kfd H T c md ac kl st ns wv at2 (.bool false) rl hi) fun rest h1 h2 => Sp.mono (stand_c (h2 _ ho hne) h1) fun r nw ⟨e1, e2⟩ => ⟨nw, ⟨[], _, e2, Fresh.nil, e1, rfl, rfl⟩, fun _ h => h⟩)
    fun r nw ⟨extra, D', e, fr, e1, e2, e3⟩ => ⟨nw, ⟨e1, by rw [e, e2, e3]; rfl⟩, fun _ h => h⟩

theorem wdF4 : True := by
  k_with "call ref" => (k_here; (with_reducible show wpAny _ _ (call (Value.ref 110) _) _ _ _); (k_dflt (apply Sp.use; walk_at "my use"; (case C => (apply stand_u; (case ho => k_mem); (case U => k_updF); (case hne => first | assumption | k_ne))); (case hd => ktr_room); (case hu => ktr_units))); intro rw9 nww9 hw9 tkw9 Fw9 Nw9 hpw9; obtain ⟨e9w, e8w⟩ := hpw9; subst e9w; subst e8w; (try dsimp only at Nw9); walk_at "my tidy")
  trivial

theorem lose_c {w : World} {mean : ExcName → Option Value} {mg mb : Str → Option Value} {rest : Led} {o dx c kl st at_ : Addr} {H : Nat → Int} {T : Nat → Tok} {md ac ns wh nw rl hi sv : Value}
    (ho : (o, instObj 199 dx) ∈ rest) (hoff : ∀ p ∈ rest, p.1 ≠ dx) :
    Sp w mean mg mb 117 [.ref o, sv] 5 50 ((dx, kfd H T c md ac kl st ns wh at_ nw rl hi) :: rest) (fun x nw' => ∃ a k t t2, x = .ref a ∧ nw' = (a, tupOf #[sv, .bytes #[] t] k) :: (dx, kfd H T c md ac kl st ns wh at_ (.bool true) (.int (-1) t2) hi) :: rest ∧ a ≠ dx ∧ ∀ p ∈ rest, p.1 ≠ a) := by
  unfold Sp
  intro d u gd cn cs' a ccd cl outer A₀ base h₀ L m s Q E B F X N TT hck hd hu hret
  refine wpAny_call ?_
  k_dflt ktr_enter
  k_steps
  refine hret _ _ _ _ (by k_asm) (by k_asm) ⟨_, _, _, _, rfl, rfl, ?_, ?_⟩
  · k_ne
  · exact off_and (by assumption)
theorem wdF5 : True := by
  k_with "call ref" => (k_here; (with_reducible show wpAny _ _ (call (Value.ref 117) _) _ _ _); (k_dflt (apply Sp.use; walk_at "my use"; (case C => (apply lose_u; (case ho => k_mem); (case U => k_updF); (case hne => first | assumption | k_ne))); (case hd => ktr_room); (case hu => ktr_units))); intro rw9 nww9 hw9 tkw9 Fw9 Nw9 hpw9; obtain ⟨a9w, k9w, t9w, u9w, e9w, e8w, ho9w⟩ := hpw9; subst e9w; subst e8w; (try dsimp only at Nw9); walk_at "my tidy")
  trivial

theorem ordered_c {w : World} {mean : ExcName → Option Value} {mg mb : Str → Option Value} {news : Led} {o dx c kl st at_ : Addr} {H : Nat → Int} {T : Nat → Tok} {md ac ns wh nw rl hi : Value} {nk nc nst : Nat} {vk vc vst : List Value} {ks : List (Int × Int × Bool)} {k : Int × Int × Bool} {cs : List By} {S : List Int} {wi : Int} {t4 : Tok}
    (ho : (o, instObj 199 dx) ∈ news) (hdx : (dx, kfd H T c md ac kl st ns wh at_ nw rl hi) ∈ news) (hkl : (kl, listOf vk.toArray nk) ∈ news) (hk : All2 (KeyIn news) vk ks) (hw0 : 0 ≤ wi) (hw1 : wi < 10) (hkw : ks[wi.toNat]? = some k)
    (hc : (c, listOf vc.toArray nc) ∈ news) (hcs : All2 IsB vc cs) (hst : (st, listOf vst.toArray nst) ∈ news) (hS : All2 (StIn ks.length news) vst S) (hSl : S.length = cs.length) (hSn : S.Nodup) (hlen : cs.length < 64) (hsz : ∀ b ∈ cs, b.size < 10000) :
    Sp w mean mg mb 89 [.ref o, .int wi t4] 10 100 news (fun x nw' => ∃ D c' p vs tl, x = .ref D ∧ nw' = (D, listOf (vs : List Value).toArray c') :: (news ++ tl) ∧ p.Perm (List.range cs.length) ∧ (p.map (kkey k cs S)).Pairwise (fun a b => rowLt a b = true) ∧
      All2 (ORow tl (kkey k cs S)) vs p ∧ (∀ q ∈ tl, q.2.cls = .type "tuple") ∧ (∀ q ∈ news ++ tl, q.1 ≠ D) ∧ vs.length = cs.length) := by
  unfold Sp
  intro d u gd cn cs' a ccd cl outer A₀ base h₀ L m s Q E B F X N TT hck hd hu hret
  refine wpAny_call ?_
  have hvl : vc.length < 10000 := by have := hcs.len; omega
  k_dflt ktr_enter
  k_steps
  walk_at "my for"
  refine range_build (n := vc.length) (c₀ := 0) (news := news) (fun l v i => ORow l (kkey k cs S) v i) (fun l l' v i h hs => h.mono hs) rfl (by assumption) (by omega) (by assumption) (by assumption) (off_all (by assumption)) ?_ ?_
  · intro i t9 h9 tk9 vs cN rest hi hvs hsub hoff F9 N9
    have ho' := hsub _ ho
    have hdx' := hsub _ hdx
    have hkl' := hsub _ hkl
    have hc' := hsub _ hc
    have hst' := hsub _ hst
    have hk' : All2 (KeyIn rest) vk ks := hk.mono fun v k h => h.mono hsub
    have hi' : i < cs.length := by rw [← hcs.len]; exact hi
    obtain ⟨v, hv, tb, rfl⟩ := hcs.get (List.getElem?_eq_getElem hi')
    have hv' : vc[(i : Int).toNat]? = some (.bytes cs[i] tb) := by simpa using hv
    have hb : (cs[i]).size < 10000 := hsz _ (List.getElem_mem _)
    have hiS : i < S.length := by rw [hSl]; exact hi'
    obtain ⟨v2, hv2, sa, us, sn, rfl, hsa, hul, hus⟩ := hS.get (List.getElem?_eq_getElem hiS)
    have hsa' := hsub _ hsa
    have hv2' : vst[(i : Int).toNat]? = some (.ref sa) := by simpa using hv2
    have hwu : wi.toNat < us.length := by rw [hul]; exact (List.getElem?_eq_some_iff.mp hkw).1
    obtain ⟨tu, hu3⟩ := hus _ (List.getElem_mem hwu)
    have hu' : us[wi.toNat]? = some (.int S[i] tu) := by rw [List.getElem?_eq_getElem hwu, hu3]
    k_steps
    have ek : kkey k cs S i = (wor k cs[i], S[i]) := by simp [kkey, hi', hiS]
    refine BuildEnd.next (by assumption) (by (rename News _ _ _ _ => nE); (simp only [List.push_toArray] at nE); exact nE) (fun z hz => by simp [hz]) ?_ rfl ?_ ?_
    · unfold ORow
      rw [ek]
      exact ⟨_, _, _, _, _, rfl, List.Mem.head _⟩
    · k_ne
    · exact off_and (by assumption)
  · intro v' h9 tk9 vs cN tl hA ht hf F9 N9
    k_steps
    refine Stop.go ?_
    refine sorted_rows (vs := vs) (ks := (List.range cs.length).map (kkey k cs S)) (by assumption) (by assumption) ⟨_, (N9 _ (List.Mem.head _)).1, rfl, _, rfl⟩ ?_ ?_ ?_ ?_
    · rw [← hcs.len]
      exact hA.map_right fun v i h => h.row.mono fun p hp => List.mem_cons_of_mem _ (List.mem_append_left _ hp)
    · rw [kkey_snd hSl]; exact hSn
    · simpa using hlen
    · intro D c' h8 p F8 N8 hl8 hp hpw
      rw [List.length_map, List.length_range] at hp
      rw [kkey_pick hp] at hpw
      k_steps
      have hpk := hA.pick (dv := Value.none) (dk := 0) (p := p) (fun i hi => by rw [List.length_range, hcs.len]; exact lt_of_pick hp i hi)
      rw [hcs.len, range_pick hp] at hpk
      refine hret _ ((D, listOf (p.map fun i => vs.getD i Value.none).toArray c') :: (news ++ tl)) _ _ (by k_asm) (newsSub (by k_asm) fun q hq => ?_) ⟨D, c', p, _, tl, rfl, rfl, hp, hpw, hpk, ht, fun q hq => Nat.ne_of_lt (hl8 q (List.mem_cons_of_mem _ (app_swap q hq))), by rw [hpk.len, hp.length_eq, List.length_range]⟩
      rcases List.mem_cons.mp hq with rfl | hq
      · exact List.Mem.head _
      · exact List.mem_cons_of_mem _ (List.mem_cons_of_mem _ (app_swap q hq))

theorem wdF6 : True := by
  k_with "call ref" => (k_here; (with_reducible show wpAny _ _ (call (Value.ref 89) _) _ _ _); (k_dflt (apply Sp.use; walk_at "my use"; (case C => (apply ordered_c; (case ho | hdx | hkl => k_mem); (case hk => walk_at "my keys"); (case hw0 | hw1 => omega); (case hkw => first | assumption | exact rfl); (case hc => k_mem); (case hcs => assumption); (case hst => k_mem); (case hS => walk_at "my stamps"); (case hSl | hSn | hlen | hsz => assumption))); (case hd => ktr_room); (case hu => ktr_units))); intro rw9 nww9 hw9 tkw9 Fw9 Nw9 hpw9; obtain ⟨D9w, c9w, p9w, v9w, tl9w, e9w, e8w, hp9w, hq9w, hA9w, ht9w, ho9w, hv9w⟩ := hpw9; subst e9w; subst e8w; (try simp only [List.cons_append] at Nw9); walk_at "my tidy")
  trivial

/-- behind a statement that makes new objects and changes one -/
def UpdEnd (h₀ : Heap) (L : Addr) (m : Vars) (g : Obj → Led) (P : Led → Obj → Prop) (s : Shared) (f : Flow) (s₂ : Shared) : Prop := f = .next ∧ ∃ h' tk' e D', s₂ = { s with heap := h', toks := tk' } ∧ P e D' ∧ Fr h₀ L h' m ∧ News h₀ L h' (e ++ g D')
theorem mid_upd {M : Model} {A : Around} {E : Value → Shared → Prop} {Q : Flow → Shared → Prop} {s : Shared} {st : Stmt} {rest : List Stmt} {env : Env} {h₀ : Heap} {L : Addr} {m : Vars} {nw : Led} {d : Addr} {D : Obj} {g : Obj → Led} (P : Led → Obj → Prop) (_F : Fr h₀ L s.heap m) (_N : News h₀ L s.heap nw) (_U : UpdF d D nw g)
    (h1 : wpAny M A (exec st env) (UpdEnd h₀ L m g P s) E s)
    (h2 : ∀ h' tk' e D', P e D' → Fr h₀ L h' m → News h₀ L h' (e ++ g D') → wpAny M A (execs rest env) Q E { s with heap := h', toks := tk' }) : wpAny M A (execs (st :: rest) env) Q E s := by
  refine wpAny_execs_cons (wpAny_mono h1 (fun f s' hq => ?_) fun _ _ e => e)
  obtain ⟨rfl, h', tk', e, D', rfl, hp, F', N'⟩ := hq
  exact h2 h' tk' e D' hp F' N'
section
local macro_rules | `(tactic| walk_at "execs cons") => `(tactic| (k_here; (with_reducible show wpAny _ _ (execs (Stmt.Expr _ _ :: _) _) _ _ _); refine stop_ ?_))
theorem found_c {w : World} {mean : ExcName → Option Value} {mg mb : Str → Option Value} {rest : Led} {o dx c kl st at_ rt : Addr} {H : Nat → Int} {T : Nat → Tok} {md ac ns wh nw rl hi : Value} {nk nc nst rn : Nat} {vk vc vst : List Value} {ks : List (Int × Int × Bool)} {k : Int × Int × Bool} {cs : List By} {S : List Int} {wi : Int} {t4 r1 r2 r3 : Tok} {i : Nat}
    (ho : (o, instObj 199 dx) ∈ rest) (hoff : ∀ p ∈ rest, p.1 ≠ dx) (hkl : (kl, listOf vk.toArray nk) ∈ rest) (hk : All2 (KeyIn rest) vk ks) (hw0 : 0 ≤ wi) (hw1 : wi < 10) (hkw : ks[wi.toNat]? = some k)
    (hc : (c, listOf vc.toArray nc) ∈ rest) (hcs : All2 IsB vc cs) (hst : (st, listOf vst.toArray nst) ∈ rest) (hS : All2 (StIn ks.length rest) vst S) (hSl : S.length = cs.length) (hSn : S.Nodup) (hlen : cs.length < 64) (hsz : ∀ b ∈ cs, b.size < 10000)
    (hi' : i < cs.length) (hrt : (rt, tupOf #[.bytes (kkey k cs S i).1 r1, .int (kkey k cs S i).2 r2, .int (i : Int) r3] rn) ∈ rest) :
    Sp w mean mg mb 122 [.ref o, .ref rt, .int wi t4] 20 200 ((dx, kfd H T c md ac kl st ns wh at_ nw rl hi) :: rest) (fun x nw' => ∃ a n ata n2 t1 t2 t3 t5 t6, x = .ref a ∧ nw' = (a, tupOf #[.str (fstat k cs S wi i) t1, .bytes (cs.getD i #[]) t2] n) :: (dx, kfd H T c md ac kl st ns (.int wi t4) ata (.bool false) (.int (S.getD i 0) t6) hi) :: (ata, tupOf #[.bytes (fat k cs S wi i).1 t3, .int (fat k cs S wi i).2 t5] n2) :: rest ∧
      a ≠ dx ∧ ata ≠ dx ∧ a ≠ ata ∧ (∀ p ∈ rest, p.1 ≠ a) ∧ ∀ p ∈ rest, p.1 ≠ ata) := by
  have hvl : vc.length < 10000 := by have := hcs.len; omega
  have hne : o ≠ dx := hoff _ ho
  have hWz : (kkey k cs S i).1.size < 100000 := by
    have h1 := wor_size k (cs.getD i #[])
    have h2 : (cs.getD i #[]).size < 10000 := by
      have : cs.getD i #[] = cs[i] := by simp [hi']
      rw [this]; exact hsz _ (List.getElem_mem _)
    show (wor k (cs.getD i #[])).size < 100000
    omega
  obtain ⟨v1, hv1, tb, rfl⟩ := hcs.get (List.getElem?_eq_getElem hi')
  have hv1' : vc[(i : Int).toNat]? = some (.bytes cs[i] tb) := by simpa using hv1
  have hiS : i < S.length := by rw [hSl]; exact hi'
  obtain ⟨v2, hv2, sa, us, sn, rfl, hsa, hul, hus⟩ := hS.get (List.getElem?_eq_getElem hiS)
  have hv2' : vst[(i : Int).toNat]? = some (.ref sa) := by simpa using hv2
  have hwu : 0 < us.length := by rw [hul]; have := (List.getElem?_eq_some_iff.mp hkw).1; omega
  obtain ⟨tu, hu3⟩ := hus _ (List.getElem_mem hwu)
  have hu' : us[(0 : Int).toNat]? = some (.int S[i] tu) := by show us[0]? = _; rw [List.getElem?_eq_getElem hwu, hu3]
  have hcd : cs.getD i #[] = cs[i] := by simp [hi']
  have hSd : S.getD i 0 = S[i] := by simp [hiS]
  unfold Sp
  intro d u gd cn cs' a ccd cl outer A₀ base h₀ L m s Q E B F X N TT hck hd hu hret
  refine wpAny_call ?_
  k_dflt (walk_at "my enterC")
  k_steps
  refine Stop.go ?_
  refine' mid_upd (d := dx) (D := kfd H T c md ac kl st ns wh at_ nw rl hi) (fun e D' => ∃ ata n2 t3 t5, e = [(ata, tupOf #[.bytes (fat k cs S wi i).1 t3, .int (fat k cs S wi i).2 t5] n2)] ∧ D' = kfd H T c md ac kl st ns (.int wi t4) ata (.bool false) rl hi ∧ ata ≠ dx ∧ ∀ p ∈ rest, p.1 ≠ ata) (by k_asm) (by k_asm) ?mU ?_ ?_
  (case mU => k_updF)
  · k_steps
    · have hfat := fat_1 (k := k) (cs := cs) (S := S) (i := i) (by assumption : 0 < wi)
      refine' ⟨rfl, _, _, [(_, _)], _, rfl, ⟨_, _, _, _, ?p1, rfl, ?q1, ?r1⟩, by k_asm, ?n1⟩
      (case n1 => k_asm)
      (case p1 => rw [hfat])
      (case q1 => k_ne)
      (case r1 => k_all)
    · have hfat := fat_0 (k := k) (cs := cs) (S := S) (i := i) (by assumption : ¬0 < wi)
      refine' ⟨rfl, _, _, [(_, _)], _, rfl, ⟨_, _, _, _, ?p2, rfl, ?q2, ?r2⟩, by k_asm, ?n2⟩
      (case n2 => k_asm)
      (case p2 => rw [hfat])
      (case q2 => k_ne)
      (case r2 => k_all)
  rintro h7 tk7 e7 D7 ⟨ata, n2, t3, t5, rfl, rfl, hd7, hr7⟩ F7 N7
  try dsimp only [List.cons_append, List.nil_append] at N7
  k_steps
  all_goals walk_at "my assignT"
  all_goals
    refine LCt.CompSrcT.ledger (by rfl) (by k_asm) (by k_asm) (by k_mem) (by rw [sizeLine_eq, List.size_toArray]; omega) ?_
    intro g9
    refine compT_filter (R := fun l v j => ORow l (kkey k cs S) v j) (fun l l' v j h hs => h.mono hs) (by assumption) (by walk_at "my sub") (isLater k cs S i) (srcAt_led (by k_mem)) ?_ ?_
    rotate_left
    · intro i9 j9 v9 nx C9 oC9 m9 h9 tk9 E9 hj hrow hC hx hmC hsub F9 N9
      obtain ⟨ra, rt1, rt2, rt3, rn9, rfl, hrm⟩ := hrow
      k_steps
      · refine ⟨_, _, rfl, by assumption, by assumption, fun _ => ⟨and_tt (by assumption) (by assumption), ?_⟩, fun e => absurd e (by decide)⟩
        k_steps
        exact ⟨_, _, rfl, by assumption, by assumption, rfl⟩
      · exact ⟨_, _, rfl, by assumption, by assumption, fun e => absurd e (by decide), fun _ => and_ff2 (by assumption)⟩
      · exact ⟨_, _, rfl, by assumption, by assumption, fun e => absurd e (by decide), fun _ => and_ff1 (by assumption)⟩
    · intro ys hys D9 h9 tk9 F9 N9 o9
      have hlat := later_of hys (by assumption)
      k_steps
      all_goals
        first | simp only [hcd, hSd, fst_02 (by assumption) hlat (by assumption)] at hret | simp only [hcd, hSd, fst_00 hlat (by assumption)] at hret | simp only [hcd, hSd, fst_0 (by assumption)] at hret
        refine' hret _ _ _ _ ?F ?N ⟨_, _, _, _, _, _, _, _, _, rfl, rfl, ?a1, ?a2, ?a3, ?a4, ?a5⟩
        (case F => k_asm)
        (case N => (refine newsSub (by k_asm) ?_; walk_at "my subs"))
        (case a1 => k_ne)
        (case a2 => k_ne)
        (case a3 => k_ne)
        (case a4 => k_all)
        (case a5 => k_all)
end

theorem wdF7 : True := by
  k_with "call ref" => (k_here; (with_reducible show wpAny _ _ (call (Value.ref 122) _) _ _ _); refine stop_ ?_)
  trivial

theorem read_next_c {w : World} {mean : ExcName → Option Value} {mg mb : Str → Option Value} {rest : Led} {o dx c kl st at_ : Addr} {H : Nat → Int} {T : Nat → Tok} {md ac : Str} {tm tac : Tok} {ns rl hi : Value} {nk nc nst an : Nat} {vk vc vst : List Value} {ks : List (Int × Int × Bool)} {k : Int × Int × Bool} {cs : List By} {S : List Int} {wi : Int} {t4 at1 at2 : Tok} {pos : By × Int} {nwb : Bool}
    (ho : (o, instObj 199 dx) ∈ rest) (hoff : ∀ p ∈ rest, p.1 ≠ dx) (hkl : (kl, listOf vk.toArray nk) ∈ rest) (hk : All2 (KeyIn rest) vk ks) (hw0 : 0 ≤ wi) (hw1 : wi < 10) (hkw : ks[wi.toNat]? = some k)
    (hc : (c, listOf vc.toArray nc) ∈ rest) (hcs : All2 IsB vc cs) (hst : (st, listOf vst.toArray nst) ∈ rest) (hS : All2 (StIn ks.length rest) vst S) (hSl : S.length = cs.length) (hSn : S.Nodup) (hlen : cs.length < 64) (hsz : ∀ b ∈ cs, b.size < 10000)
    (hat : (at_, tupOf #[.bytes pos.1 at1, .int pos.2 at2] an) ∈ rest) (hmd : (decide (Str.ofString "input" = md) || decide (Str.ofString "i-o" = md)) = true) (hac : ac ≠ Str.ofString "random") :
    Sp w mean mg mb 129 [.ref o] 30 300 ((dx, kfd H T c (.str md tm) (.str ac tac) kl st ns (.int wi t4) at_ (.bool nwb) rl hi) :: rest) (fun x nw' =>
      (nwb = true ∧ ∃ a n t1 t2 t3, x = .ref a ∧ nw' = (a, tupOf #[.str (Str.ofString "46") t1, .bytes #[] t2] n) :: (dx, kfd H T c (.str md tm) (.str ac tac) kl st ns (.int wi t4) at_ (.bool true) (.int (-1) t3) hi) :: rest ∧ a ≠ dx ∧ ∀ p ∈ rest, p.1 ≠ a) ∨
      (nwb = false ∧ (∀ j, j < cs.length → rowLt pos (kkey k cs S j) = false) ∧ ∃ a n t1 t2 t3, x = .ref a ∧ nw' = (a, tupOf #[.str (Str.ofString "10") t1, .bytes #[] t2] n) :: (dx, kfd H T c (.str md tm) (.str ac tac) kl st ns (.int wi t4) at_ (.bool true) (.int (-1) t3) hi) :: rest ∧ a ≠ dx ∧ ∀ p ∈ rest, p.1 ≠ a) ∨
      (nwb = false ∧ ∃ i, Nxt k cs S pos i ∧ ∃ a n ata2 n2 t1 t2 t3 t5 t6, x = .ref a ∧ nw' = (a, tupOf #[.str (fstat k cs S wi i) t1, .bytes (cs.getD i #[]) t2] n) :: (dx, kfd H T c (.str md tm) (.str ac tac) kl st ns (.int wi t4) ata2 (.bool false) (.int (S.getD i 0) t6) hi) :: (ata2, tupOf #[.bytes (fat k cs S wi i).1 t3, .int (fat k cs S wi i).2 t5] n2) :: rest ∧
      a ≠ dx ∧ ata2 ≠ dx ∧ a ≠ ata2 ∧ (∀ p ∈ rest, p.1 ≠ a) ∧ ∀ p ∈ rest, p.1 ≠ ata2)) := by
  unfold Sp
  intro d u gd cn cs' a ccd cl outer A₀ base h₀ L m s Q E B F X N TT hck hd hu hret
  refine wpAny_call ?_
  have hne : o ≠ dx := hoff _ ho
  k_dflt ktr_enter
  cases nwb
  · k_steps
    walk_at "my for"
    refine list_search (R := fun l v j => ORow l (kkey k cs S) v j) rfl (by assumption) (by assumption) (by k_mem) (fun l l' v j h hs => h.mono hs) (by assumption) (by walk_at "my sub") (fun j => rowLt pos (kkey k cs S j)) ?_ ?_
    · intro i9 a9 v9 h9 tk9 nx hj hbef hrow hsub F9 N9
      obtain ⟨ra, rt1, rt2, rt3, rn9, rfl, hrm⟩ := hrow
      have hdx9 : (dx, kfd H T c (.str md tm) (.str ac tac) kl st ns (.int wi t4) at_ (.bool false) rl hi) ∈ nx := hsub _ (by k_mem)
      have hsub9 : ∀ p ∈ rest, p ∈ nx := fun p hp => hsub p (by walk_at "my in")
      have hrd : ra ≠ dx := ne_cls N9 hrm hdx9 tup_dict
      have hleast := least_of (by assumption) (by assumption) hj hbef
      have hcn : (a9 : Nat) < cs.length := hleast.1
      k_steps
      · refine Stop.go ?_
        refine Sp.use (Sp.sub (found_c (rest := (ra, _) :: rest) (H := H) (T := T) (md := .str md tm) (ac := .str ac tac) (ns := ns) (wh := .int wi t4) (at_ := at_) (nw := .bool false) (rl := rl) (hi := hi) (r1 := rt1) (r2 := rt2) (r3 := rt3) (rn := rn9) (List.mem_cons_of_mem _ ho) (List.forall_mem_cons.mpr ⟨hrd, hoff⟩) (List.mem_cons_of_mem _ hkl) (keys_cons hk) hw0 hw1 hkw (List.mem_cons_of_mem _ hc) hcs (List.mem_cons_of_mem _ hst) (stamps_cons hS) hSl hSn hlen hsz hcn List.mem_cons_self) ?hs) (by k_asm) (by k_asm) (by k_asm) (by k_asm) (by k_asm) (by first | exact rfl | assumption) (by ktr_room) (by ktr_units) ?_
        · exact List.forall_mem_cons.mpr ⟨List.mem_cons_of_mem _ hdx9, List.forall_mem_cons.mpr ⟨List.mem_cons_of_mem _ hrm, fun p hp => List.mem_cons_of_mem _ (hsub9 p hp)⟩⟩
        · rintro r8 nw8 h8 tk8 F8 N8 ⟨a, n, ata2, n2, t1, t2, t3, t5, t6, rfl, rfl, f1, f2, f3, f4, f5⟩
          try k_sweep
          k_steps
          refine' hret _ _ _ _ ?F ?N (.inr (.inr ⟨rfl, a9, ⟨hcn, by assumption, hleast.2⟩, a, n, ata2, n2, t1, t2, t3, t5, t6, rfl, rfl, f1, f2, f3, tail_all f4, tail_all f5⟩))
          (case F => k_asm)
          (case N => exact newsSub (by k_asm) (by walk_at "my subs"))
      · exact RoEnd.next (by assumption) (newsSub (by k_asm) (by walk_at "my sub")) (by simpa using (by assumption)) (fun z hz => by simp [hz])
    · intro v' h9 tk9 hP F9 N9
      k_steps
      refine Sp.use (Sp.sub (lose_c (H := H) (T := T) (c := c) (kl := kl) (st := st) (at_ := at_) (md := .str md tm) (ac := .str ac tac) (ns := ns) (wh := .int wi t4) (nw := .bool false) (rl := rl) (hi := hi) ho hoff) ?hsb) (by k_asm) (by k_asm) (by k_asm) (by k_asm) (by k_asm) (by first | exact rfl | assumption) (by ktr_room) (by ktr_units) ?_
      · walk_at "my subs"
      · rintro r8 nw8 h8 tk8 F8 N8 ⟨a, n, t1, t2, rfl, rfl, f1, f4⟩
        try k_sweep
        k_steps
        refine' hret _ _ _ _ ?F ?N (.inr (.inl ⟨rfl, ?P, a, n, _, _, _, rfl, rfl, f1, f4⟩))
        (case F => k_asm)
        (case N => k_asm)
        · exact fun j hj => hP _ ((List.Perm.mem_iff (by assumption)).mpr (List.mem_range.mpr hj))
  · k_steps
    refine' hret _ _ _ _ ?F ?N (.inl ⟨rfl, _, _, _, _, _, rfl, rfl, ?a1, ?a4⟩)
    (case F => k_asm)
    (case N => k_asm)
    (case a1 => k_ne)
    (case a4 => k_all)

theorem wdF8 : True := by
  k_with "call ref" => (k_here; (with_reducible show wpAny _ _ (call (Value.ref 129) _) _ _ _); refine stop_ ?_)
  trivial

/-- as much of a worth as the key tells -/
def pre (key b : By) : By := KBy.picked b none (some (key.size : Int))
def sat (op : Str) (key b : By) : Bool := (!decide (op = Str.ofString ">") && decide (pre key b = key)) || (!decide (op = Str.ofString "=") && blt key (pre key b))
section
variable {op : Str} {key b : By}
theorem sat_1 (h1 : (op != Str.ofString ">") = true) (h2 : KBy.picked b none (some (key.size : Int)) = key) : sat op key b = true := by
  unfold sat pre
  rw [decide_eq_true h2, decide_eq_false (bne_iff_ne.mp h1)]
  rfl
theorem sat_2 (h1 : (op != Str.ofString "=") = true) (h2 : blt key (KBy.picked b none (some (key.size : Int))) = true) : sat op key b = true := by
  unfold sat pre
  rw [h2, decide_eq_false (bne_iff_ne.mp h1)]
  simp
theorem sat_f (h1 : (op != Str.ofString ">") = false ∨ ¬ KBy.picked b none (some (key.size : Int)) = key) (h2 : (op != Str.ofString "=") = false ∨ blt key (KBy.picked b none (some (key.size : Int))) = false) : sat op key b = false := by
  have e (x : Str) (h : (op != x) = false) : op = x := by simpa using h
  unfold sat pre
  rcases h1 with h1 | h1 <;> rcases h2 with h2 | h2
  · rw [decide_eq_true (e _ h1), decide_eq_true (e _ h2)]; rfl
  · rw [decide_eq_true (e _ h1), h2]; simp
  · rw [decide_eq_false h1, decide_eq_true (e _ h2)]; simp
  · rw [decide_eq_false h1, h2]; simp
end
theorem pick0 (b : By) : KBy.picked b none (some 0) = #[] := by
  rw [KBc.picked_eq]
  have : clipAt b.size 0 = 0 := by simp [clipAt]; omega
  simp [this]
theorem sat_all {b : By} : sat (Str.ofString ">=") #[] b = true := by
  have e : pre #[] b = #[] := pick0 b
  unfold sat
  rw [e]
  decide
theorem start_c {w : World} {mean : ExcName → Option Value} {mg mb : Str → Option Value} {rest : Led} {o dx c kl st at_ : Addr} {H : Nat → Int} {T : Nat → Tok} {md ac : Str} {tm tac to : Tok} {ns wh nw rl hi : Value} {nk nc nst : Nat} {vk vc vst : List Value} {ks : List (Int × Int × Bool)} {k : Int × Int × Bool} {cs : List By} {S : List Int} {wi : Int} {t4 tk0 : Tok}
    (ho : (o, instObj 199 dx) ∈ rest) (hoff : ∀ p ∈ rest, p.1 ≠ dx) (hkl : (kl, listOf vk.toArray nk) ∈ rest) (hk : All2 (KeyIn rest) vk ks) (hw0 : 0 ≤ wi) (hw1 : wi < 10) (hkw : ks[wi.toNat]? = some k)
    (hc : (c, listOf vc.toArray nc) ∈ rest) (hcs : All2 IsB vc cs) (hst : (st, listOf vst.toArray nst) ∈ rest) (hS : All2 (StIn ks.length rest) vst S) (hSl : S.length = cs.length) (hSn : S.Nodup) (hlen : cs.length < 64) (hsz : ∀ b ∈ cs, b.size < 10000)
    (hmd : (decide (Str.ofString "input" = md) || decide (Str.ofString "i-o" = md)) = true) (hac : ac ≠ Str.ofString "random") :
    Sp w mean mg mb 145 [.ref o, .str (Str.ofString ">=") to, .bytes #[] tk0, .int wi t4] 30 300 ((dx, kfd H T c (.str md tm) (.str ac tac) kl st ns wh at_ nw rl hi) :: rest) (fun x nw' =>
      (∃ i, i < cs.length ∧ sat (Str.ofString ">=") #[] (kkey k cs S i).1 = true ∧ (∀ j, j < cs.length → sat (Str.ofString ">=") #[] (kkey k cs S j).1 = true → j = i ∨ rowLt (kkey k cs S i) (kkey k cs S j) = true) ∧
        ∃ ata n t1 t3 t5 t6, x = .str (Str.ofString "00") t1 ∧ nw' = (dx, kfd H T c (.str md tm) (.str ac tac) kl st ns (.int wi t4) ata (.bool false) (.int (-1) t6) hi) :: (ata, tupOf #[.bytes (kkey k cs S i).1 t3, .int ((kkey k cs S i).2 - 1) t5] n) :: rest ∧ ata ≠ dx ∧ ∀ p ∈ rest, p.1 ≠ ata) ∨
      ((∀ j, j < cs.length → sat (Str.ofString ">=") #[] (kkey k cs S j).1 = false) ∧ ∃ t1 t6, x = .str (Str.ofString "23") t1 ∧ nw' = (dx, kfd H T c (.str md tm) (.str ac tac) kl st ns wh at_ (.bool true) (.int (-1) t6) hi) :: rest)) := by
  have hWz : ∀ i, i < cs.length → (kkey k cs S i).1.size < 10000 := fun i hi' => by
    have h1 := wor_size k (cs.getD i #[])
    have h2 : (cs.getD i #[]).size < 10000 := by
      have : cs.getD i #[] = cs[i] := by simp [hi']
      rw [this]; exact hsz _ (List.getElem_mem _)
    show (wor k (cs.getD i #[])).size < 10000
    omega
  unfold Sp
  intro d u gd cn cs' a ccd cl outer A₀ base h₀ L m s Q E B F X N TT hck hd hu hret
  refine wpAny_call ?_
  have hne : o ≠ dx := hoff _ ho
  k_dflt (walk_at "my enterD")
  k_steps
  walk_at "my for"
  refine list_search2 (R := fun l v j => ORow l (kkey k cs S) v j) (Str.ofString "part") rfl (by assumption) (by assumption) (by k_mem) (fun l l' v j h hs => h.mono hs) (by assumption) (by walk_at "my sub") (fun j => sat (Str.ofString ">=") #[] (kkey k cs S j).1) ?_ ?_
  · intro i9 a9 v9 h9 tk9 nx py9 hj hbef hrow hsub F9 N9
    obtain ⟨ra, rt1, rt2, rt3, rn9, rfl, hrm⟩ := hrow
    have hdx9 := hsub _ (List.mem_cons_of_mem _ List.mem_cons_self)
    have hsub9 : ∀ p ∈ rest, p ∈ nx := fun p hp => hsub p (by walk_at "my in")
    have hrd : ra ≠ dx := ne_cls N9 hrm hdx9 tup_dict
    have hleast := least_of (by assumption) (by assumption) hj hbef
    have hcn : (a9 : Nat) < cs.length := hleast.1
    have hz9 := hWz _ hcn
    have hp0 : KBy.picked (kkey k cs S a9).1 none (some ((Array.size (#[] : By) : Nat) : Int)) = #[] := pick0 _
    k_steps
    all_goals first
      | exact absurd hp0 (by assumption)
      | skip
    all_goals
      (have hsat : sat (Str.ofString ">=") #[] (kkey k cs S a9).1 = true := sat_all)
      (rename ∀ p ∈ nx, p.1 < _ => l1)
      (refine' Sp.use (Sp.sub (stand_c (H := H) (T := T) (c := c) (kl := kl) (st := st) (at_ := at_) (md := .str md tm) (ac := .str ac tac) (ns := ns) (wh := wh) (nw := nw) (rl := .int (-1) _) (hi := hi) (rest := _ :: rest) (List.mem_cons_of_mem _ ho) (List.forall_mem_cons.mpr ⟨?hq, hoff⟩)) (List.forall_mem_cons.mpr ⟨List.mem_cons_of_mem _ hdx9, List.forall_mem_cons.mpr ⟨List.mem_cons_self, fun p hp => List.mem_cons_of_mem _ (hsub9 p hp)⟩⟩)) (by k_asm) (by k_asm) (by k_asm) (by k_asm) (by k_asm) (by first | exact rfl | assumption) (by ktr_room) (by ktr_units) ?_)
      (case hq => exact Ne.symm (Nat.ne_of_lt (l1 _ hdx9)))
      (rintro r8 nw8 h8 tk8 F8 N8 ⟨rfl, rfl⟩)
      (try k_sweep)
      k_steps
      (refine' hret _ _ _ _ ?F ?N (.inl ⟨a9, hcn, hsat, hleast.2, _, _, _, _, _, _, rfl, rfl, Ne.symm (Nat.ne_of_lt (l1 _ hdx9)), fun p hp => Nat.ne_of_lt (l1 p (hsub9 p hp))⟩))
      (case F => k_asm)
      (case N => k_asm)
  · intro v' h9 tk9 py9 hP F9 N9
    k_steps
    refine' Sp.use (Sp.sub (lose_c (H := H) (T := T) (c := c) (kl := kl) (st := st) (at_ := at_) (md := .str md tm) (ac := .str ac tac) (ns := ns) (wh := wh) (nw := nw) (rl := .int (-1) _) (hi := hi) ho hoff) ?hsb) (by k_asm) (by k_asm) (by k_asm) (by k_asm) (by k_asm) (by first | exact rfl | assumption) (by ktr_room) (by ktr_units) ?_
    (case hsb => walk_at "my subs")
    rintro r8 nw8 h8 tk8 F8 N8 ⟨a, n, t1, t2, rfl, rfl, f1, f4⟩
    try k_sweep
    k_steps
    refine' hret _ _ _ _ ?F ?N (.inr ⟨fun j hj => hP _ ((List.Perm.mem_iff (by assumption)).mpr (List.mem_range.mpr hj)), _, _, rfl, rfl⟩)
    (case F => k_asm)
    (case N => exact newsSub (by k_asm) (by walk_at "my subs"))

theorem wdF9 : True := by
  k_with "call ref" => (k_here; (with_reducible show wpAny _ _ (call (Value.ref 145) _) _ _ _); refine stop_ ?_)
  trivial

theorem take_c {w : World} {mean : ExcName → Option Value} {mg mb : Str → Option Value} {b : Addr} {N k : Int} {t t2 : Tok} {n : Nat} {rest : Led} (hk : 0 < k) (hk2 : k < 100) (hr : ∀ p ∈ rest, p.1 ≠ b) :
    Sp w mean mg mb 210 [.ref b, .int k t2] 5 50 ((b, listOf #[.int N t] n) :: rest) (fun r nw => ∃ j : Nat, ∃ t1 N' t3, r = .int (j : Int) t1 ∧ (j : Int) < k ∧ nw = (b, listOf #[.int N' t3] n) :: rest) := by
  unfold Sp
  intro d u gd cn cs a ccd cl outer A₀ base h₀ L m s Q E B F X NN TT hck hd hu hret
  refine wpAny_call ?_
  k_dflt ktr_enter
  k_steps
  have h1 := Int.fmod_nonneg_of_pos N hk
  have h2 := Int.fmod_lt_of_pos N hk
  have h3 := Int.toNat_of_nonneg h1
  refine' hret _ _ _ _ ?tF ?tN ⟨(N.fmod k).toNat, _, _, _, congrArg (Value.int · _) h3.symm, by rw [h3]; exact h2, ?tE⟩
  (case tF => k_asm)
  rotate_left
  (case tE => exact rfl)
  (case tN => k_asm)
theorem take_u {w : World} {mean : ExcName → Option Value} {mg mb : Str → Option Value} {b : Addr} {N k : Int} {t t2 : Tok} {n : Nat} {news : Led} {g : Obj → Led} (hk : 0 < k) (hk2 : k < 100) (U : UpdF b (listOf #[.int N t] n) news g) :
    Sp w mean mg mb 210 [.ref b, .int k t2] 5 50 news (fun r nw => ∃ j : Nat, ∃ t1 N' t3, r = .int (j : Int) t1 ∧ (j : Int) < k ∧ nw = g (listOf #[.int N' t3] n)) :=
  Sp.mono (Sp.upd U (P := fun r e D' => ∃ j : Nat, ∃ t1 N' t3, r = .int (j : Int) t1 ∧ (j : Int) < k ∧ e = [] ∧ D' = listOf #[.int N' t3] n) fun rest h1 _ => Sp.mono (take_c hk hk2 h1) fun r nw ⟨j, t1, N', t3, e1, e2, e4⟩ => ⟨nw, ⟨[], _, e4, Fresh.nil, j, t1, N', t3, e1, e2, rfl, rfl⟩, fun _ h => h⟩)
    fun r nw ⟨extra, D', e, fr, j, t1, N', t3, e1, e2, e4, e5⟩ => ⟨nw, ⟨j, t1, N', t3, e1, e2, by rw [e, e4, e5]; rfl⟩, fun _ h => h⟩

theorem wdF10 : True := by
  k_with "call ref" => (k_here; (with_reducible show wpAny _ _ (call (Value.ref 210) _) _ _ _); (k_dflt (apply Sp.use; walk_at "my use"; (case C => (apply take_u; (case U => k_updF); (case hk | hk2 => first | decide | omega))); (case hd => ktr_room); (case hu => ktr_units))); intro rw9 nww9 hw9 tkw9 Fw9 Nw9 hpw9; obtain ⟨j9w, t9w, N9w, u9w, e9w, jh9w, e8w⟩ := hpw9; subst e9w; subst e8w; (try dsimp only at Nw9); walk_at "my tidy")
  trivial

/-- a contract with a word over the heap below -/
def SpH (w : World) (mean : ExcName → Option Value) (mg mb : Str → Option Value) (f : Addr) (args : List Value) (dp un : Nat) (news : Led) (H : Heap → Prop) (Post : Value → Led → Prop) : Prop :=
  ∀ (d u : Nat) (gd : Option (List Code)) (cn : Str) (cs : Scope) (a : Addr) (ccd : Value) (cl : List (Str × Addr)) (outer : List Env) (A₀ : Around) (base h₀ : Heap) (L : Addr) (m : Str → Option Value) (s : Shared)
    (Q E : Value → Shared → Prop), H h₀ →
    Below A₀ base outer h₀ → Fr h₀ L s.heap m → (hd.heap_39 w.params).In h₀ → News h₀ L s.heap news → Top view (looseW view [Str.ofString "LedgerError", Str.ofString "KeyFile"]) mean mg mb h₀ → cs.kind = .function →
    d + dp < recursionLimit → u + un < cLine →
    (∀ r news' h' tk', Fr h₀ L h' m → News h₀ L h' news' → Post r news' → Q r { s with heap := h', toks := tk' }) →
    wpAny (model Challenge.rw_pc0127_02.row.prog w) (ktrTop d u gd cn cs L a ccd cl outer) (call (.ref f) args) Q E s
theorem SpH.use {w : World} {mean : ExcName → Option Value} {mg mb : Str → Option Value} {f : Addr} {args : List Value} {dp un : Nat} {news : Led} {H : Heap → Prop} {Post : Value → Led → Prop} (C : SpH w mean mg mb f args dp un news H Post)
    {d u : Nat} {gd : Option (List Code)} {cn : Str} {cs : Scope} {a : Addr} {ccd : Value} {cl : List (Str × Addr)} {outer : List Env} {A₀ : Around} {base h₀ : Heap} {L : Addr} {m : Str → Option Value} {s : Shared} {Q E : Value → Shared → Prop} (hH : H h₀)
    (B : Below A₀ base outer h₀) (F : Fr h₀ L s.heap m) (X : (hd.heap_39 w.params).In h₀) (N : News h₀ L s.heap news) (T : Top view (looseW view [Str.ofString "LedgerError", Str.ofString "KeyFile"]) mean mg mb h₀) (hk : cs.kind = .function)
    (hd : d + dp < recursionLimit) (hu : u + un < cLine)
    (h : ∀ r news' h' tk', Fr h₀ L h' m → News h₀ L h' news' → Post r news' → Q r { s with heap := h', toks := tk' }) :
    wpAny (model Challenge.rw_pc0127_02.row.prog w) (ktrTop d u gd cn cs L a ccd cl outer) (call (.ref f) args) Q E s := C d u gd cn cs a ccd cl outer A₀ base h₀ L m s Q E hH B F X N T hk hd hu h
theorem ints_at : ∀ {vs : List Value} {ns : List Int}, IntsAre vs ns → ∀ {i : Nat} {v : Value}, vs[i]? = some v → ∃ n t, v = .int n t := by
  intro vs ns h
  induction h with
  | nil => intro i v h; simp at h
  | cons _ _ _ ih => intro i v h; cases i with
    | zero => exact ⟨_, _, (Option.some.inj h).symm⟩
    | succ i => exact ih h
theorem bagnn {N n : Int} (h : 0 ≤ N) : 0 ≤ N * 1000033 + n.fmod (10 ^ Int.toNat 120) := Int.add_nonneg (Int.mul_nonneg h (by decide)) (Int.fmod_nonneg_of_pos _ (by decide))
theorem bits_ok {N : Int} (h0 : 0 ≤ N) (h : N < 10 ^ Int.toNat 50) : (Builtin.Int.intBits N : Int) * 7 ≤ 2 ^ 27 := by
  have hb : Builtin.Int.intBits N ≤ 200 := by
    unfold Builtin.Int.intBits
    split
    · omega
    · have h1 : N.natAbs ≠ 0 := by simp_all
      have h2 : N.natAbs < 2 ^ 199 := by
        have : (10 : Int) ^ Int.toNat 50 < 2 ^ 199 := by decide
        omega
      have := (Nat.log2_lt h1).mpr h2
      omega
  omega
theorem wdF11 : True := by
  k_with "binaryOp Pow int int" => (k_here; (refine pow_int (by decide) (bits_ok (by assumption) (by assumption)) ?_); k_whole)
  trivial
theorem bag_c {w : World} {mean : ExcName → Option Value} {mg mb : Str → Option Value} {sc : Addr} {vs : List Value} {ns : List Int} {rest : Led} (hi : IntsAre vs ns) (hl : ns.length ≤ 63) (hlay : (PyData.list (List.map PyData.int ns)).layable0 = true) :
    SpH w mean mg mb 217 [.ref sc] 5 50 rest (fun h₀ => h₀.IsList sc vs.toArray) (fun r nw => ∃ b N t n, r = .ref b ∧ nw = (b, listOf #[.int N t] n) :: rest ∧ ∀ p ∈ rest, p.1 ≠ b) := by
  unfold SpH
  intro d u gd cn cs a ccd cl outer A₀ base h₀ L m s Q E hsc B F X NN TT hck hd hu hret
  refine wpAny_call ?_
  k_dflt ktr_enter
  rename Fr h₀ _ _ _ => FG
  have hsc' := FG.lst hsc
  k_steps
  walk_at "my for"
  refine' list_roP (yv := Str.ofString "number") (fun _ v => ∃ N t, v = some (.int N t) ∧ 0 ≤ N) rfl ?hl (by assumption) (by assumption) ⟨7, _, rfl, by decide⟩ ?_ ?_
  (case hl => k_mem)
  · rintro i v h9 tk9 nx py hv ⟨N, t, rfl, hN0⟩ hsub F9 N9
    obtain ⟨n9, t9, rfl⟩ := ints_at (by assumption) hv
    k_steps
    exact RoEndP.next (by assumption) (newsSub (by assumption) (by walk_at "my sub")) ⟨N * 1000033 + n9.fmod (10 ^ Int.toNat 120), _, if_pos rfl, bagnn hN0⟩ (fun z hz hz2 => by simp [hz, hz2])
  · rintro v' h9 tk9 py ⟨N, t, rfl, hN0⟩ F9 N9
    k_steps
    all_goals
      refine' hret _ _ _ _ ?bF ?bN ⟨_, _, _, _, rfl, rfl, ?bO⟩
      (case bF => k_asm)
      (case bN => exact newsSub (by k_asm) (by walk_at "my subs"))
      (case bO => k_all)

theorem wdF12 : True := by
  k_with "call ref" => (k_here; (with_reducible show wpAny _ _ (call (Value.ref 217) _) _ _ _); refine stop_ ?_)
  trivial

theorem others_c {w : World} {mean : ExcName → Option Value} {mg mb : Str → Option Value} {news : Led} {o dx c kl st at_ : Addr} {H : Nat → Int} {T : Nat → Tok} {md ac ns wh nw rl hi : Value} {nk nc : Nat} {vk vc : List Value} {ks : List (Int × Int × Bool)} {k : Int × Int × Bool} {r : By} {cs : List By} {t t4 t5 : Tok} {wi : Int}
    (ho : (o, instObj 199 dx) ∈ news) (hdx : (dx, kfd H T c md ac kl st ns wh at_ nw rl hi) ∈ news) (hkl : (kl, listOf vk.toArray nk) ∈ news) (hk : All2 (KeyIn news) vk ks) (hw0 : 0 ≤ wi) (hw1 : wi < 10) (hkw : ks[wi.toNat]? = some k)
    (hc : (c, listOf vc.toArray nc) ∈ news) (hcs : All2 IsB vc cs) (hlen : cs.length < 64) (hsz : ∀ b ∈ cs, b.size < 10000) (hr : r.size < 10000) :
    Sp w mean mg mb 103 [.ref o, .bytes r t, .int wi t4, .int (-1) t5] 10 100 news (fun x nw => nw = news ∧ x = .bool (decide (wor k r ∈ cs.map (wor k)))) := by
  unfold Sp
  intro d u gd cn cs' a ccd cl outer A₀ base h₀ L m s Q E B F X N TT hck hd hu hret
  refine wpAny_call ?_
  have hvl : vc.length < 10000 := by have := hcs.len; omega
  k_dflt ktr_enter
  k_steps
  walk_at "my for"
  refine range_ro (n := vc.length) (fun i => ∀ j, j < i → (cs[j]?).map (wor k) ≠ some (wor k r)) rfl (by assumption) (by omega) (by assumption) (by assumption) (fun j hj => absurd hj (Nat.not_lt_zero _)) ?_ ?_
  · intro i t9 h9 tk9 nx hi hP hsub F9 N9
    have ho' := hsub _ ho
    have hdx' := hsub _ hdx
    have hkl' := hsub _ hkl
    have hc' := hsub _ hc
    have hk' : All2 (KeyIn nx) vk ks := hk.mono fun v k ⟨a, t1, t2, n, e, hm⟩ => ⟨a, t1, t2, n, e, hsub _ hm⟩
    have hi' : i < cs.length := by rw [← hcs.len]; exact hi
    obtain ⟨v, hv, tb, rfl⟩ := hcs.get (List.getElem?_eq_getElem hi')
    have hv' : vc[(i : Int).toNat]? = some (.bytes cs[i] tb) := by simpa using hv
    have hb : (cs[i]).size < 10000 := hsz _ (List.getElem_mem _)
    k_steps
    · refine hret _ _ _ _ (by k_asm) (newsSub (by k_asm) hsub) ⟨rfl, congrArg Value.bool (decide_eq_true ?_).symm⟩
      exact List.mem_map.mpr ⟨_, List.getElem_mem hi', by assumption⟩
    · refine RoEnd.next (by assumption) (by assumption) (fun j hj => ?_) (fun z hz => by simp [hz])
      by_cases e : j = i
      · subst e
        rw [List.getElem?_eq_getElem hi']
        intro q
        exact absurd (Option.some.inj q) (by assumption)
      · exact hP j (by omega)
    · exfalso; omega
  · intro v' h9 tk9 hP F9 N9
    k_steps
    refine hret _ _ _ _ (by k_asm) (by k_asm) ⟨rfl, congrArg Value.bool (decide_eq_false fun hm => ?_).symm⟩
    obtain ⟨b, hb, e⟩ := List.mem_map.mp hm
    obtain ⟨j, hj, rfl⟩ := List.mem_iff_getElem.mp hb
    exact hP j (by rw [hcs.len]; exact hj) (by rw [List.getElem?_eq_getElem hj]; exact congrArg some e)

theorem wdF13 : True := by
  k_with "call ref" => (k_here; (with_reducible show wpAny _ _ (call (Value.ref 103) _) _ _ _); refine stop_ ?_)
  trivial

theorem maywrite_c {w : World} {mean : ExcName → Option Value} {mg mb : Str → Option Value} {news : Led} {o dx c kl st at_ : Addr} {H : Nat → Int} {T : Nat → Tok} {md ac : Str} {tm tac : Tok} {ns wh nw rl hi : Value} {b : Bool}
    (ho : (o, instObj 199 dx) ∈ news) (hdx : (dx, kfd H T c (.str md tm) (.str ac tac) kl st ns wh at_ nw rl hi) ∈ news) (h1 : ([Str.ofString "output", Str.ofString "extend"].any fun x => x == md) = b) (h2 : ([Str.ofString "output", Str.ofString "i-o"].any fun x => x == md) = b) :
    Sp w mean mg mb 171 [.ref o] 10 100 news (fun x nw => nw = news ∧ x = .bool b) := by
  unfold Sp
  intro d u gd cn cs' a ccd cl outer A₀ base h₀ L m s Q E B F X N TT hck hd hu hret
  refine wpAny_call ?_
  k_dflt ktr_enter
  k_steps
  · exact hret _ _ _ _ (by k_asm) (newsSub (by k_asm) (by walk_at "my sub")) ⟨rfl, congrArg Value.bool h1⟩
  · exact hret _ _ _ _ (by k_asm) (newsSub (by k_asm) (by walk_at "my sub")) ⟨rfl, congrArg Value.bool h2⟩

theorem wdF14 : True := by
  k_with "call ref" => (k_here; (with_reducible show wpAny _ _ (call (Value.ref 171) _) _ _ _); refine stop_ ?_)
  trivial

/-- does another record have this one's part -/
def oth (cs : List By) (r : By) (k : Int × Int × Bool) : Bool := decide (wor k r ∈ cs.map (wor k))
def kTwo (k1 k2 : Int × Int × Bool) (i : Nat) : Int × Int × Bool := if i = 0 then k1 else k2
def dblS (cs : List By) (r : By) (kk : Nat → Int × Int × Bool) (n : Nat) : Str := if (List.range n).any (fun j => oth cs r (kk j)) then Str.ofString "02" else Str.ofString "00"
def dbl (cs : List By) (r : By) (k1 k2 : Int × Int × Bool) : Str := if (List.range 2).any (fun j => oth cs r (kTwo k1 k2 j) && !(kTwo k1 k2 j).2.2) then Str.ofString "22" else dblS cs r (kTwo k1 k2) 2
theorem dblS_next {cs : List By} {r : By} {kk : Nat → Int × Int × Bool} {i : Nat} : dblS cs r kk (i + 1) = if oth cs r (kk i) then Str.ofString "02" else dblS cs r kk i := by
  unfold dblS
  rw [List.range_succ, List.any_append]
  cases h : oth cs r (kk i) <;> simp [h]
theorem any_next {f : Nat → Bool} {i : Nat} (h : (List.range i).any f = false) (hf : f i = false) : (List.range (i + 1)).any f = false := by
  rw [List.range_succ, List.any_append, h]
  simp [hf]
theorem any_two {f : Nat → Bool} {i : Nat} (hi : i < 2) (hf : f i = true) : (List.range 2).any f = true := List.any_eq_true.mpr ⟨i, List.mem_range.mpr hi, hf⟩
theorem doubled_c {w : World} {mean : ExcName → Option Value} {mg mb : Str → Option Value} {news : Led} {o dx c kl st at_ rg : Addr} {H : Nat → Int} {T : Nat → Tok} {md ac ns wh nw rl hi : Value} {nk nc : Nat} {vk vc : List Value} {k0 k1 k2 : Int × Int × Bool} {r : By} {cs : List By} {t t5 u1 u2 u3 : Tok} {rb : Int}
    (ho : (o, instObj 199 dx) ∈ news) (hdx : (dx, kfd H T c md ac kl st ns wh at_ nw rl hi) ∈ news) (hkl : (kl, listOf vk.toArray nk) ∈ news) (hk : All2 (KeyIn news) vk [k0, k1, k2])
    (hc : (c, listOf vc.toArray nc) ∈ news) (hcs : All2 IsB vc cs) (hlen : cs.length < 64) (hsz : ∀ b ∈ cs, b.size < 10000) (hr : r.size < 10000) (hrg : (rg, rangeO 1 rb u1 u2 u3) ∈ news) (hrb : rb = 3) :
    Sp w mean mg mb 164 [.ref o, .bytes r t, .int (-1) t5, .ref rg] 20 200 news (fun x nw => nw = news ∧ ∃ t', x = .str (dbl cs r k1 k2) t') := by
  subst hrb
  unfold Sp
  intro d u gd cn cs' a ccd cl outer A₀ base h₀ L m s Q E B F X N TT hck hd hu hret
  refine wpAny_call ?_
  have hvl : vc.length < 10000 := by have := hcs.len; omega
  k_dflt ktr_enter
  k_steps
  walk_at "my for"
  have hrgH : IsRange _ rg ((1 : Nat) : Int) 3 1 u1 u2 u3 := ((by k_asm : News _ _ _ _) _ (by k_mem : List.Mem (rg, rangeO 1 3 u1 u2 u3) _)).1
  refine range_roP1 (a := 1) (n := 2) (yv := Str.ofString "status") (fun i py => (∃ t, py = some (.str (dblS cs r (kTwo k1 k2) i) t)) ∧ (List.range i).any (fun j => oth cs r (kTwo k1 k2 j) && !(kTwo k1 k2 j).2.2) = false) rfl hrgH rfl (by decide) (by assumption) (by assumption) ⟨⟨_, rfl⟩, rfl⟩ ?_ ?_
  · rintro i t9 h9 tk9 nx py hi ⟨⟨tp, rfl⟩, hbar⟩ hsub F9 N9
    have ho' := hsub _ ho
    have hdx' := hsub _ hdx
    have hkl' := hsub _ hkl
    have hc' := hsub _ hc
    have hk' : All2 (KeyIn nx) vk [k0, k1, k2] := keys_sub hk hsub
    obtain ⟨wi, hwi⟩ : ∃ wi : Int, wi = ((1 : Nat) : Int) + (i : Int) := ⟨_, rfl⟩
    rw [← hwi] at F9
    have hkw : [k0, k1, k2][wi.toNat]? = some (kTwo k1 k2 i) := by
      match i, hi with
      | 0, _ => rw [hwi]; rfl
      | 1, _ => rw [hwi]; rfl
      | i + 2, h => omega
    have hw0 : 0 ≤ wi := by omega
    have hw1 : wi < 10 := by omega
    obtain ⟨vkk, hvk, ka, ta1, ta2, kan, rfl, hka⟩ := hk'.get hkw
    k_steps
    refine Stop.go ?_
    refine Sp.use (others_c ho' hdx' hkl' hk' hw0 hw1 hkw hc' hcs hlen hsz hr) (by k_asm) (by k_asm) (by k_asm) (by k_asm) (by k_asm) (by first | exact rfl | assumption) (by ktr_room) (by ktr_units) ?_
    rintro r8 nw8 h8 tk8 F8 N8 ⟨rfl, rfl⟩
    try k_sweep
    have eo : decide (wor (kTwo k1 k2 i) r ∈ cs.map (wor (kTwo k1 k2 i))) = oth cs r (kTwo k1 k2 i) := rfl
    rw [eo]
    cases hoth : oth cs r (kTwo k1 k2 i)
    · k_steps
      exact RoEndP.next (by assumption) (newsSub (by k_asm) (by walk_at "my sub")) ⟨⟨_, by rw [dblS_next, hoth]; exact (if_neg (by decide)).trans (if_pos rfl)⟩, any_next hbar (by rw [hoth]; rfl)⟩ (fun z hz hz2 => by simp [hz, hz2])
    · cases hbr : (kTwo k1 k2 i).2.2
      · rw [hbr] at hka
        k_steps
        refine hret _ _ _ _ (by k_asm) (newsSub (by k_asm) hsub) ⟨rfl, tk, ?_⟩
        unfold dbl
        rw [any_two hi (by rw [hoth, hbr]; rfl)]
        rfl
      · rw [hbr] at hka
        k_steps
        exact RoEndP.next (by assumption) (newsSub (by k_asm) (by walk_at "my sub")) ⟨⟨_, by rw [dblS_next, hoth]; exact if_pos rfl⟩, any_next hbar (by rw [hoth, hbr]; rfl)⟩ (fun z hz hz2 => by simp [hz, hz2])
  · rintro v' h9 tk9 py ⟨⟨tp, rfl⟩, hbar⟩ F9 N9
    k_steps
    refine hret _ _ _ _ (by k_asm) (by k_asm) ⟨rfl, tp, ?_⟩
    unfold dbl
    rw [hbar]
    exact rfl

theorem wdF15 : True := by
  k_with "call ref" => (k_here; (with_reducible show wpAny _ _ (call (Value.ref 164) _) _ _ _); refine stop_ ?_)
  trivial

theorem wdF16 : True := by
  k_with "compareOp In int ref" => (k_here; k_dflt (apply in_range; (case N => k_asm); (case hr => k_mem); k_whole))
  trivial
theorem off1_all {D : Addr} : ∀ {l : Led}, LCg.Off1 D l → ∀ p ∈ l, p.1 ≠ D
  | [], _ => fun _ h => nomatch h
  | _ :: _, h => List.forall_mem_cons.mpr ⟨h.1, off1_all h.2⟩
theorem put_c {w : World} {mean : ExcName → Option Value} {mg mb : Str → Option Value} {rest : Led} {o dx c kl st at_ rg sl : Addr} {H : Nat → Int} {T : Nat → Tok} {md ac wh nw rl hi : Value} {nk nc nst : Nat} {vk vc vst : List Value} {r : By} {t tn u1 u2 u3 : Tok} {n rb : Int}
    (ho : (o, instObj 199 dx) ∈ rest) (hcst : c ≠ st) (hcd : dx ≠ c) (hsd : dx ≠ st) (hoff : ∀ p ∈ rest, p.1 ≠ dx) (hoc : ∀ p ∈ rest, p.1 ≠ c) (hos : ∀ p ∈ rest, p.1 ≠ st) (hkl : (kl, listOf vk.toArray nk) ∈ rest) (hvk : vk.length = 3) (hvl : vc.length < 10000) (hvl2 : vst.length < 10000) (hrg : (rg, rangeO 0 rb u1 u2 u3) ∈ rest) (hrb : rb = 3) :
    Sp w mean mg mb 150 [.ref o, .bytes r t, .ref sl, .ref rg] 20 200 ((c, listOf vc.toArray nc) :: (st, listOf vst.toArray nst) :: (dx, kfd H T c md ac kl st (.int n tn) wh at_ nw rl hi) :: rest) (fun x nw' =>
      ∃ D us n1 n2 n3 t2, x = .none ∧ nw' = (c, listOf (vc ++ [Value.bytes r t]).toArray n1) :: (st, listOf (vst ++ [Value.ref D]).toArray n2) :: (dx, kfd H T c md ac kl st (.int (n + 1) t2) wh at_ nw rl hi) :: (D, listOf (us : List Value).toArray n3) :: rest ∧ us.length = 3 ∧ (∀ u ∈ us, ∃ t, u = .int n t) ∧ D ≠ c ∧ D ≠ st ∧ D ≠ dx ∧ ∀ p ∈ rest, p.1 ≠ D) := by
  have hne : o ≠ dx := hoff _ ho
  have hoc' : o ≠ c := hoc _ ho
  have hos' : o ≠ st := hos _ ho
  have hcd' : c ≠ dx := Ne.symm hcd
  have hsd' : st ≠ dx := Ne.symm hsd
  have hcst' : st ≠ c := Ne.symm hcst
  subst hrb
  unfold Sp
  intro d u gd cn cs' a ccd cl outer A₀ base h₀ L m s Q E B F X N TT hck hd hu hret
  refine wpAny_call ?_
  k_dflt (walk_at "my enterC")
  k_steps
  walk_at "my compU"
  walk_at "my rangeU"
  intro g9
  refine comp_ro (fun i ys => ys.length = i ∧ ∀ u ∈ ys, ∃ t, u = Value.int n t) trivial ⟨rfl, fun _ h => nomatch h⟩ ?_ ?_
  · rintro ys ⟨hyl, hyn⟩ D9 h9 tk9 F9 N9 o9
    simp only [LCg.Off1] at o9
    k_steps
    rename News _ _ _ _ => nE
    simp only [List.push_toArray] at nE
    have oR := off1_all o9.2.2.2.2.2.2
    refine' hret _ _ _ _ ?pF (newsSub nE ?ps) ⟨D9, ys, _, _, _, _, rfl, rfl, ?pl, hyn, Ne.symm o9.2.2.2.1, Ne.symm o9.2.2.2.2.1, Ne.symm o9.2.2.2.2.2.1, oR⟩
    (case pF => k_asm)
    (case ps => walk_at "my subs")
    (case pl => omega)
  · rintro i v ys nx C oC m₂ h9 tk9 E' hi ⟨t9, rfl⟩ ⟨hyl, hyn⟩ hC hx hm hsub F9 N9
    k_steps
    refine ⟨_, _, rfl, by assumption, newsSub (by k_asm) (by walk_at "my sub"), by simp [hyl], fun u hu => ?_⟩
    rcases List.mem_append.mp hu with hu | hu
    · exact hyn u hu
    · exact ⟨_, List.mem_singleton.mp hu⟩

theorem wdF17 : True := by
  k_with "call ref" => (k_here; (with_reducible show wpAny _ _ (call (Value.ref 150) _) _ _ _); refine stop_ ?_)
  trivial

/-- behind a plain if: it returned, or it came by with nothing changed -/
def IfEnd (h₀ : Heap) (L : Addr) (m : Vars) (nw : Led) (P : Prop) (s : Shared) (Q : Flow → Shared → Prop) (f : Flow) (s₂ : Shared) : Prop :=
  match f with
  | .next => P ∧ ∃ h' tk', s₂ = { s with heap := h', toks := tk' } ∧ Fr h₀ L h' m ∧ News h₀ L h' nw
  | f => Q f s₂
theorem IfEnd.ret {h₀ : Heap} {L : Addr} {m : Vars} {nw : Led} {P : Prop} {s s₂ : Shared} {Q : Flow → Shared → Prop} {v : Value} (h : Q (.ret v) s₂) : IfEnd h₀ L m nw P s Q (.ret v) s₂ := h
theorem IfEnd.next {h₀ : Heap} {L : Addr} {m : Vars} {nw : Led} {P : Prop} {s : Shared} {Q : Flow → Shared → Prop} {h' : Heap} {tk' : Nat} (hp : P) (F : Fr h₀ L h' m) (N : News h₀ L h' nw) : IfEnd h₀ L m nw P s Q .next { s with heap := h', toks := tk' } := ⟨hp, h', tk', rfl, F, N⟩
theorem mid_if {M : Model} {A : Around} {E : Value → Shared → Prop} {Q : Flow → Shared → Prop} {s : Shared} {st : Stmt} {rest : List Stmt} {env : Env} {h₀ : Heap} {L : Addr} {m : Vars} {nw : Led} {P : Prop} (_F : Fr h₀ L s.heap m) (_N : News h₀ L s.heap nw)
    (h1 : wpAny M A (exec st env) (IfEnd h₀ L m nw P s Q) E s)
    (h2 : ∀ h' tk', P → Fr h₀ L h' m → News h₀ L h' nw → wpAny M A (execs rest env) Q E { s with heap := h', toks := tk' }) : wpAny M A (execs (st :: rest) env) Q E s := by
  refine wpAny_execs_cons (wpAny_mono h1 (fun f s' hq => ?_) fun _ _ e => e)
  cases f with
  | next =>
    obtain ⟨hp, h', tk', rfl, F', N'⟩ := hq
    exact h2 h' tk' hp F' N'
  | ret v => exact hq
  | brk => exact hq
  | cont => exact hq
theorem wdF18 : True := by
  k_with "IfEnd" => refine IfEnd.ret ?_
  trivial

/-- the status of a writing -/
def wst (ac : Str) (cs : List By) (hi r : By) (k0 k1 k2 : Int × Int × Bool) : Str :=
  if ac = Str.ofString "sequential" then (if cs ≠ [] ∧ blt hi (wor k0 r) = false then Str.ofString "21" else dbl cs r k1 k2)
  else if wor k0 r ∈ cs.map (wor k0) then Str.ofString "22" else dbl cs r k1 k2
theorem dbl_cases (cs : List By) (r : By) (k1 k2 : Int × Int × Bool) : dbl cs r k1 k2 = Str.ofString "00" ∨ dbl cs r k1 k2 = Str.ofString "02" ∨ dbl cs r k1 k2 = Str.ofString "22" := by
  unfold dbl dblS
  split
  · exact .inr (.inr rfl)
  · split
    · exact .inr (.inl rfl)
    · exact .inl rfl
section
variable {prog : Program} {w : World} {A : Around} {E : Value → Shared → Prop} {s : Shared} {Q : Value → Shared → Prop}
theorem ne_str_ff {x : Str} {t u : Tok} (h : Q (.bool false) s) : wpAny (model prog w) A (compareOp .NotEq (.str x t) (.str x u)) Q E s := PyProof.Rows.ne_str (by rw [bne_self_eq_false]; exact h)
theorem ne_str_tt {x y : Str} {t u : Tok} (hne : x ≠ y) (h : Q (.bool true) s) : wpAny (model prog w) A (compareOp .NotEq (.str x t) (.str y u)) Q E s := PyProof.Rows.ne_str (by rw [bne_iff_ne.mpr hne]; exact h)
end
theorem wdF19 : True := by
  k_with "compareOp NotEq str str" => first | refine ne_str_ff ?_ | refine ne_str_tt (by assumption) ?_
  trivial
section
local macro_rules | `(tactic| walk_at "execs cons") => `(tactic| (k_here; (with_reducible show wpAny _ _ (execs (Stmt.If (Expr.Compare (Expr.Attribute _ _ _) _ _ _) _ _ _ :: _) _) _ _ _); refine stop_ ?_))
local macro_rules | `(tactic| walk_at "call type:range") => `(tactic| refine stop_ ?_)
theorem write_c {w : World} {mean : ExcName → Option Value} {mg mb : Str → Option Value} {rest : Led} {o dx c kl st at_ : Addr} {H : Nat → Int} {T : Nat → Tok} {ac : Str} {tm tac : Tok} {wh nw rl : Value} {nk nc nst : Nat} {vk vc vst : List Value} {k0 k1 k2 : Int × Int × Bool} {hi r : By} {cs : List By} {t tn thi : Tok} {n : Int}
    (ho : (o, instObj 199 dx) ∈ rest) (hcst : c ≠ st) (hcd : dx ≠ c) (hsd : dx ≠ st) (hoff : ∀ p ∈ rest, p.1 ≠ dx) (hoc : ∀ p ∈ rest, p.1 ≠ c) (hos : ∀ p ∈ rest, p.1 ≠ st) (hkl : (kl, listOf vk.toArray nk) ∈ rest) (hk : All2 (KeyIn rest) vk [k0, k1, k2])
    (hcs : All2 IsB vc cs) (hvs : vst.length = vc.length) (hlen : cs.length < 63) (hsz : ∀ b ∈ cs, b.size < 10000) (hr : r.size < 10000) :
    Sp w mean mg mb 178 [.ref o, .bytes r t] 40 400 ((c, listOf vc.toArray nc) :: (st, listOf vst.toArray nst) :: (dx, kfd H T c (.str (Str.ofString "output") tm) (.str ac tac) kl st (.int n tn) wh at_ nw rl (.bytes hi thi)) :: rest) (fun x nw' =>
      (∃ D us n1 n2 n3 t1 t2 t3 t4, x = .str (wst ac cs hi r k0 k1 k2) t1 ∧ (wst ac cs hi r k0 k1 k2 = Str.ofString "00" ∨ wst ac cs hi r k0 k1 k2 = Str.ofString "02") ∧
        nw' = (c, listOf (vc ++ [Value.bytes r t]).toArray n1) :: (st, listOf (vst ++ [Value.ref D]).toArray n2) :: (dx, kfd H T c (.str (Str.ofString "output") tm) (.str ac tac) kl st (.int (n + 1) t2) wh at_ nw (.int (-1) t3) (.bytes (wor k0 r) t4)) :: (D, listOf (us : List Value).toArray n3) :: rest ∧
        us.length = 3 ∧ (∀ u ∈ us, ∃ t, u = .int n t) ∧ D ≠ c ∧ D ≠ st ∧ D ≠ dx ∧ ∀ p ∈ rest, p.1 ≠ D) ∨
      (∃ t1 t3, x = .str (wst ac cs hi r k0 k1 k2) t1 ∧ (wst ac cs hi r k0 k1 k2 = Str.ofString "21" ∨ wst ac cs hi r k0 k1 k2 = Str.ofString "22") ∧
        nw' = (c, listOf vc.toArray nc) :: (st, listOf vst.toArray nst) :: (dx, kfd H T c (.str (Str.ofString "output") tm) (.str ac tac) kl st (.int n tn) wh at_ nw (.int (-1) t3) (.bytes hi thi)) :: rest)) := by
  have hne : o ≠ dx := hoff _ ho
  have hoc' : o ≠ c := hoc _ ho
  have hos' : o ≠ st := hos _ ho
  have hcd' : c ≠ dx := Ne.symm hcd
  have hsd' : st ≠ dx := Ne.symm hsd
  have hcst' : st ≠ c := Ne.symm hcst
  have hvk : vk.length = 3 := hk.len
  have hvl : vc.length < 10000 := by have := hcs.len; omega
  unfold Sp
  intro d u gd cn cs' a ccd cl outer A₀ base h₀ L m s Q E B F X N TT hck hd hu hret
  refine wpAny_call ?_
  k_dflt ktr_enter
  k_steps
  refine Stop.go ?_
  refine' Sp.use (maywrite_c (b := true) (md := Str.ofString "output") ?wa ?wb (by decide) (by decide)) (by k_asm) (by k_asm) (by k_asm) (by k_asm) (by k_asm) (by first | exact rfl | assumption) (by ktr_room) (by ktr_units) ?_
  (case wa => k_mem)
  (case wb => k_mem)
  rintro r8 nw8 h8 tk8 F8 N8 ⟨rfl, rfl⟩
  try k_sweep
  k_steps
  refine Stop.go ?_
  refine mid_if (nw := (c, listOf vc.toArray nc) :: (st, listOf vst.toArray nst) :: (dx, _) :: rest) (P := wst ac cs hi r k0 k1 k2 = dbl cs r k1 k2) (by k_asm) (by k_asm) ?_ ?_
  · by_cases hac : ac = Str.ofString "sequential"
    · subst hac
      k_steps
      · refine IfEnd.next ?_ (by k_asm) (newsSub (by k_asm) (by walk_at "my sub"))
        have hz : cs = [] := List.eq_nil_of_length_eq_zero (by have := hcs.len; have : vc.toArray.size = 0 := by assumption
                                                               rw [List.size_toArray] at this; omega)
        unfold wst
        rw [if_pos rfl, if_neg (fun q => q.1 hz)]
      · refine IfEnd.next ?_ (by k_asm) (newsSub (by k_asm) (by walk_at "my sub"))
        unfold wst
        rw [if_pos rfl, if_neg (fun q => by have h9 : blt hi (wor k0 r) = true := by assumption
                                            rw [h9] at q; exact absurd q.2 (by decide))]
      · have hws : wst (Str.ofString "sequential") cs hi r k0 k1 k2 = Str.ofString "21" := by
          unfold wst
          rw [if_pos rfl, if_pos ⟨fun q => by
            have h9 : ¬vc.toArray.size = 0 := by assumption
            have := hcs.len
            rw [q] at this
            rw [List.size_toArray] at h9
            exact h9 this, by assumption⟩]
        rw [hws] at hret
        refine' hret _ _ _ _ ?vFq (newsSub ?vNq ?vsq) (.inr ⟨_, _, rfl, .inl rfl, rfl⟩)
        (case vFq => k_asm)
        (case vNq => k_asm)
        (case vsq => walk_at "my subs")
    · k_steps
      refine Stop.go ?_
      refine' Sp.use (place_of_c ?xa ?xb ?xc (ks := [k0, k1, k2]) ?xd rfl ?xe hcs (by omega) hsz) (by k_asm) (by k_asm) (by k_asm) (by k_asm) (by k_asm) (by first | exact rfl | assumption) (by ktr_room) (by ktr_units) ?_
      (case xa => k_mem)
      (case xb => k_mem)
      (case xc => k_mem)
      (case xd => (refine keys_sub hk ?_; walk_at "my sub"))
      (case xe => k_mem)
      rintro r8 nw8 h8 tk8 F8 N8 ⟨rfl, ⟨i, t1, rfl, h1, h2, h3⟩ | ⟨t1, rfl, h1⟩⟩
      · try k_sweep
        k_steps
        have hws : wst ac cs hi r k0 k1 k2 = Str.ofString "22" := by
          unfold wst
          rw [if_neg hac, if_pos]
          obtain ⟨b, hb, e⟩ := Option.map_eq_some_iff.mp h2
          exact List.mem_map.mpr ⟨b, List.mem_of_getElem? hb, e⟩
        rw [hws] at hret
        refine' hret _ _ _ _ ?vF (newsSub ?vN ?vs) (.inr ⟨_, _, rfl, .inr rfl, rfl⟩)
        (case vF => k_asm)
        (case vN => k_asm)
        (case vs => walk_at "my subs")
      · try k_sweep
        k_steps
        refine IfEnd.next ?_ (by k_asm) (newsSub (by k_asm) (by walk_at "my sub"))
        unfold wst
        rw [if_neg hac, if_neg (fun q => by obtain ⟨b, hb, e⟩ := List.mem_map.mp q; exact h1 b hb e)]
  intro h8 tk8 hws F8 N8
  k_steps
  refine Stop.go ?_
  k_dflt (refine' range2_led ?rF1 ?rN1 ?_; (case rF1 => k_asm); (case rN1 => k_asm); k_whole)
  intro r1' h1' tk1' ta1' tb1' tc1' F1' N1' l1'
  (try k_lt l1')
  (try k_sweep)
  k_steps
  have hk' := hk
  refine Stop.go ?_
  refine' Sp.use (doubled_c ?xaA ?xbA ?xcA (keys_sub hk' ?xdA) ?xeA (by assumption) (by omega) (by assumption) (by assumption) ?xfA ?xgA) (by k_asm) (by k_asm) (by k_asm) (by k_asm) (by k_asm) (by first | exact rfl | assumption) (by ktr_room) (by ktr_units) ?_
  (case xaA | xbA | xcA | xeA | xfA => k_mem)
  (case xdA => walk_at "my sub")
  (case xgA => omega)
  rintro r8 nw8 h8 tk8 F8 N8 ⟨rfl, td, rfl⟩
  (try k_sweep)
  have hdc := dbl_cases cs r k1 k2
  generalize dbl cs r k1 k2 = ds at hws hdc ⊢
  rw [hws] at hret
  have hdc' : (ds = Str.ofString "00" ∨ ds = Str.ofString "02") ∨ ds = Str.ofString "22" := hdc.elim (fun q => .inl (.inl q)) (fun q => q.elim (fun q => .inl (.inr q)) .inr)
  rcases hdc' with hok | rfl
  · have hne22 : ds ≠ Str.ofString "22" := by rcases hok with rfl | rfl <;> decide
    k_steps
    refine Stop.go ?_
    k_dflt (refine' range1_led ?rF2 ?rN2 ?_; (case rF2 => k_asm); (case rN2 => k_asm); k_whole)
    intro r2' h2' tk2' ta2' tb2' tc2' F2' N2' l2'
    (try k_lt l2')
    (try k_sweep)
    k_steps
    refine Stop.go ?_
    refine' Sp.use (Sp.sub (put_c (c := c) (st := st) (dx := dx) (H := H) (T := T) (nc := nc) (nst := nst) (vc := vc) (vst := vst) (kl := kl) (at_ := at_) (n := n) (tn := tn) (wh := wh) (nw := nw) (md := .str (Str.ofString "output") tm) (ac := .str _ tac) (rl := .int (-1) _) (hi := .bytes hi thi) (rest := (_, rangeO 0 _ _ _ _) :: rest) (List.mem_cons_of_mem _ ho) hcst hcd hsd (List.forall_mem_cons.mpr ⟨?yaA, hoff⟩) (List.forall_mem_cons.mpr ⟨?ybA, hoc⟩) (List.forall_mem_cons.mpr ⟨?ycA, hos⟩) (List.mem_cons_of_mem _ hkl) hvk hvl (by omega) List.mem_cons_self ?ygA) ?ysA) (by k_asm) (by k_asm) (by k_asm) (by k_asm) (by k_asm) (by first | exact rfl | assumption) (by ktr_room) (by ktr_units) ?_
    (case ysA => walk_at "my subs")
    (case yaA => dsimp only; k_ne)
    (case ybA => dsimp only; k_ne)
    (case ycA => dsimp only; k_ne)
    (case ygA => omega)
    rintro r9 nw9 h9 tk9 F9 N9 ⟨D', us', n1', n2', n3', t2', rfl, rfl, hul', hus', e1', e2', e3', e4'⟩
    try k_sweep
    k_steps
    refine' hret _ _ _ _ ?vFA (newsSub ?vNA ?vsA) (.inl ⟨D', us', _, _, _, _, _, _, _, rfl, hok, rfl, hul', hus', e1', e2', e3', tail_all e4'⟩)
    (case vFA => k_asm)
    (case vNA => k_asm)
    (case vsA => walk_at "my subs")
  · k_steps
    refine' hret _ _ _ _ ?vFA2 (newsSub ?vNA2 ?vsA2) (.inr ⟨_, _, rfl, .inr rfl, rfl⟩)
    (case vFA2 => k_asm)
    (case vNA2 => k_asm)
    (case vsA2 => walk_at "my subs")
end

theorem wdF20 : True := by
  k_with "call ref" => (k_here; (with_reducible show wpAny _ _ (call (Value.ref 178) _) _ _ _); refine stop_ ?_)
  trivial

def lawKey (d : Bool) (i : Nat) : Int × Int × Bool := if i = 0 then (0, 2, false) else if i = 1 then (2, 1, true) else (3, 1, d)
theorem wor02 (b : By) {f : Bool} : wor (0, 2, f) b = KBy.picked b none (some 2) := by
  unfold wor
  rw [KBc.picked_eq, KBc.picked_eq]
  have e : clipAt b.size 0 = 0 := by simp [clipAt]; omega
  simp [e]
theorem part_c {w : World} {mean : ExcName → Option Value} {mg mb : Str → Option Value} {news : Led} {r : By} {t t4 : Tok} {i : Nat} {d9 : Bool} (hi : i < 3) (hr : r.size < 10000) :
    Sp w mean mg mb 224 [.bytes r t, .int (i : Int) t4] 5 50 news (fun x nw => ∃ t', x = .bytes (wor (lawKey d9 i) r) t' ∧ nw = news) := by
  unfold Sp
  intro d u gd cn cs a ccd cl outer A₀ base h₀ L m s Q E B F X N TT hck hd hu hret
  refine wpAny_call ?_
  rcases (by omega : i = 0 ∨ i = 1 ∨ i = 2) with rfl | rfl | rfl
  · k_dflt ktr_enter
    k_steps
    exact hret _ _ _ _ (by k_asm) (newsSub (by k_asm) (by walk_at "my sub")) ⟨_, congrArg (Value.bytes · _) (wor02 r).symm, rfl⟩
  · k_dflt ktr_enter
    k_steps
    exact hret _ _ _ _ (by k_asm) (newsSub (by k_asm) (by walk_at "my sub")) ⟨_, rfl, rfl⟩
  · k_dflt ktr_enter
    k_steps
    exact hret _ _ _ _ (by k_asm) (newsSub (by k_asm) (by walk_at "my sub")) ⟨_, rfl, rfl⟩

theorem wdF21 : True := by
  k_with "call ref" => (k_here; (with_reducible show wpAny _ _ (call (Value.ref 224) _) _ _ _); refine stop_ ?_)
  trivial

theorem wdF22 : True := by
  k_with "my assignU" => (refine Stop.go ?_; k_dflt (refine LCg.Assign_ListComp_U (F₀ := by k_asm) (by rfl) (by with_unfolding_all rfl) (by with_unfolding_all rfl) (by decide) (by rfl) (by decide) (by rfl) (by rfl) (by rfl) ?_); (try k_fold); k_steps; refine Stop.go ?_)
  trivial
/-- the law's own status of a writing -/
def lstA (ac : Str) (cs : List By) (r : By) : Bool := decide (ac = Str.ofString "sequential") && cs.any fun c => !blt (KBy.picked c none (some 2)) (KBy.picked r none (some 2))
def lstB (d : Bool) (cs : List By) (r : By) : Bool := decide (KBy.picked r none (some 2) ∈ cs.map fun b => KBy.picked b none (some 2)) || (!d && decide (KBy.picked r (some 3) none ∈ cs.map fun b => KBy.picked b (some 3) none))
def lstC (cs : List By) (r : By) : Bool := decide (KBy.picked r (some 2) (some 3) ∈ cs.map fun b => KBy.picked b (some 2) (some 3)) || decide (KBy.picked r (some 3) none ∈ cs.map fun b => KBy.picked b (some 3) none)
def lst (ac : Str) (d : Bool) (cs : List By) (r : By) : Str := if lstA ac cs r then Str.ofString "21" else if lstB d cs r then Str.ofString "22" else if lstC cs r then Str.ofString "02" else Str.ofString "00"
theorem blt_le {b c r : By} (h : blt b c = false) (k : blt b r = true) : blt c r = true := by
  cases e : blt c b with
  | true => exact blt_trans e k
  | false => rw [← blt_total h e]; exact k
theorem lstA_nil {ac : Str} {r : By} : lstA ac [] r = false := by unfold lstA; simp
theorem lstA_ne {ac : Str} {cs : List By} {r : By} (h : ac ≠ Str.ofString "sequential") : lstA ac cs r = false := by unfold lstA; rw [decide_eq_false h]; rfl
theorem lstA_ff {ac : Str} {cs : List By} {r b : By} (hm : ∀ c ∈ cs.map (fun b => KBy.picked b none (some 2)), blt b c = false) (h : blt b (KBy.picked r none (some 2)) = true) : lstA ac cs r = false := by
  unfold lstA
  have : (cs.any fun c => !blt (KBy.picked c none (some 2)) (KBy.picked r none (some 2))) = false := List.any_eq_false.mpr fun c hc => by
    rw [blt_le (hm _ (List.mem_map.mpr ⟨c, hc, rfl⟩)) h]; decide
  rw [this, Bool.and_false]
theorem lstA_tt {cs : List By} {r b : By} (hb : b ∈ cs.map (fun b => KBy.picked b none (some 2))) (h : blt b (KBy.picked r none (some 2)) = false) : lstA (Str.ofString "sequential") cs r = true := by
  unfold lstA
  obtain ⟨c, hc, rfl⟩ := List.mem_map.mp hb
  have : (cs.any fun c => !blt (KBy.picked c none (some 2)) (KBy.picked r none (some 2))) = true := List.any_eq_true.mpr ⟨c, hc, by show (!blt _ _) = true; rw [h]; rfl⟩
  rw [this]; decide
theorem lst_21 {ac : Str} {d : Bool} {cs : List By} {r : By} (h : lstA ac cs r = true) : lst ac d cs r = Str.ofString "21" := by unfold lst; rw [h]; rfl
theorem lst_22 {ac : Str} {d : Bool} {cs : List By} {r : By} (h : lstA ac cs r = false) (k : lstB d cs r = true) : lst ac d cs r = Str.ofString "22" := by unfold lst; rw [h, k]; rfl
theorem lst_02 {ac : Str} {d : Bool} {cs : List By} {r : By} (h : lstA ac cs r = false) (k : lstB d cs r = false) (l : lstC cs r = true) : lst ac d cs r = Str.ofString "02" := by unfold lst; rw [h, k, l]; rfl
theorem lst_00 {ac : Str} {d : Bool} {cs : List By} {r : By} (h : lstA ac cs r = false) (k : lstB d cs r = false) (l : lstC cs r = false) : lst ac d cs r = Str.ofString "00" := by unfold lst; rw [h, k, l]; rfl
theorem lstB_1 {d : Bool} {cs : List By} {r : By} (h : KBy.picked r none (some 2) ∈ cs.map fun b => KBy.picked b none (some 2)) : lstB d cs r = true := by unfold lstB; rw [decide_eq_true h]; rfl
theorem lstB_2 {cs : List By} {r : By} (h : KBy.picked r (some 3) none ∈ cs.map fun b => KBy.picked b (some 3) none) : lstB false cs r = true := by unfold lstB; rw [decide_eq_true h]; simp
theorem lstB_ff {cs : List By} {r : By} (h : ¬KBy.picked r none (some 2) ∈ cs.map fun b => KBy.picked b none (some 2)) (k : ¬KBy.picked r (some 3) none ∈ cs.map fun b => KBy.picked b (some 3) none) : lstB false cs r = false := by unfold lstB; rw [decide_eq_false h, decide_eq_false k]; rfl
theorem lstB_ft {cs : List By} {r : By} (h : ¬KBy.picked r none (some 2) ∈ cs.map fun b => KBy.picked b none (some 2)) : lstB true cs r = false := by unfold lstB; rw [decide_eq_false h]; rfl
theorem lstC_1 {cs : List By} {r : By} (h : KBy.picked r (some 2) (some 3) ∈ cs.map fun b => KBy.picked b (some 2) (some 3)) : lstC cs r = true := by unfold lstC; rw [decide_eq_true h]; rfl
theorem lstC_2 {cs : List By} {r : By} (h : KBy.picked r (some 3) none ∈ cs.map fun b => KBy.picked b (some 3) none) : lstC cs r = true := by unfold lstC; rw [decide_eq_true h]; simp
theorem lstC_ff {cs : List By} {r : By} (h : ¬KBy.picked r (some 2) (some 3) ∈ cs.map fun b => KBy.picked b (some 2) (some 3)) (k : ¬KBy.picked r (some 3) none ∈ cs.map fun b => KBy.picked b (some 3) none) : lstC cs r = false := by unfold lstC; rw [decide_eq_false h, decide_eq_false k]; rfl
section
local macro_rules | `(tactic| walk_at "execs cons") => `(tactic| (k_here; (with_reducible show wpAny _ _ (execs (Stmt.If (Expr.BoolOp _ _ _) _ _ _ :: _) _) _ _ _); refine stop_ ?_))
local macro_rules | `(tactic| walk_at "call builtin:max") => `(tactic| (k_here; (with_reducible show wpAny _ _ (call (Value.builtin _) [Value.ref _]) _ _ _); refine stop_ ?_))
theorem status_c {w : World} {mean : ExcName → Option Value} {mg mb : Str → Option Value} {news : Led} {hl : Addr} {vc : List Value} {cs : List By} {nc : Nat} {r : By} {ac : Str} {t tac : Tok} {d9 : Bool}
    (hc : (hl, listOf vc.toArray nc) ∈ news) (hcs : All2 IsB vc cs) (hlen : cs.length < 64) (hsz : ∀ b ∈ cs, b.size < 10000) (hr : r.size < 10000) :
    Sp w mean mg mb 229 [.ref hl, .bytes r t, .str ac tac, .bool d9] 20 200 news (fun x nw => ∃ t', x = .str (lst ac d9 cs r) t' ∧ nw = news) := by
  have hvl : vc.length < 10000 := by have := hcs.len; omega
  unfold Sp
  intro d u gd cn cs' a ccd cl outer A₀ base h₀ L m s Q E B F X N TT hck hd hu hret
  refine wpAny_call ?_
  k_dflt ktr_enter
  k_steps
  walk_at "my assignU"
  walk_at "my ledgerU"
  intro g9
  refine comp_map (R' := IsB) (fun b => KBy.picked b none (some 2)) hcs (srcAt_led (by k_mem)) ?_ ?_
  rotate_left
  · rintro j b v nx C oC m₂ h9 tk9 E' hb ⟨tb, rfl⟩ hC hx hm hsub9 F9 N9
    have hb4 : b.size < 10000 := hsz b (List.mem_of_getElem? hb)
    k_steps
    exact ⟨_, _, rfl, by assumption, newsSub (by k_asm) (by walk_at "my sub"), _, rfl⟩
  · intro ys hys D9 h9 tk9 F9 N9 o9
    have o8 := off1_all o9
    k_steps
    refine Stop.go ?_
    refine mid_if (nw := (D9, LCg.lst ys) :: news) (P := lstA ac cs r = false) (by k_asm) (by k_asm) ?_ ?_
    · by_cases hac : ac = Str.ofString "sequential"
      · subst hac
        k_steps
        · have hz : cs = [] := List.eq_nil_of_length_eq_zero (by have := hys.len; have : ys.toArray.size = 0 := by assumption
                                                                 rw [List.size_toArray] at this; rw [List.length_map] at *; omega)
          exact IfEnd.next (by rw [hz]; exact lstA_nil) (by k_asm) (newsSub (by k_asm) (by walk_at "my sub"))
        · have hz : 0 < (cs.map fun b => KBy.picked b none (some 2)).length := by
            have h9 : ¬ys.toArray.size = 0 := by assumption
            rw [List.size_toArray, hys.len] at h9
            omega
          refine Stop.go ?_
          refine' max_bys rfl (by k_asm) (by k_asm) ?mm hys hz ?_
          (case mm => k_mem)
          intro h8 tk8 t8 b8 hb8 hmax8 F8 N8
          k_steps
          · exact IfEnd.next (lstA_ff hmax8 (by assumption)) (by k_asm) (newsSub (by k_asm) (by walk_at "my sub"))
          · refine' hret _ _ _ _ ?rFa (newsSub ?rNa ?rsa) ⟨_, congrArg (Value.str · _) (lst_21 (lstA_tt hb8 (by assumption))).symm, rfl⟩
            (case rFa => k_asm)
            (case rNa => k_asm)
            (case rsa => walk_at "my sub")
      · k_steps
        refine IfEnd.next (lstA_ne hac) (by k_asm) (newsSub (by k_asm) (by walk_at "my sub"))
    · intro h8 tk8 hP1 F8 N8
      refine mid_if (nw := (D9, LCg.lst ys) :: news) (P := lstB d9 cs r = false) (by k_asm) (by k_asm) ?_ ?_
      · cases d9
        · k_steps
          · refine' hret _ _ _ _ ?rFb (newsSub ?rNb ?rsb) ⟨_, congrArg (Value.str · _) (lst_22 hP1 (lstB_1 (by assumption))).symm, rfl⟩
            (case rFb => k_asm)
            (case rNb => k_asm)
            (case rsb => walk_at "my sub")
          · refine Stop.go ?_
            walk_at "my compU"
            walk_at "my ledgerU"
            intro g5
            refine comp_map (R' := IsB) (fun b => KBy.picked b (some 3) none) hcs (srcAt_led (by k_mem)) ?_ ?_
            rotate_left
            · rintro j b v nx C oC m₂ h7 tk7 E' hb ⟨tb, rfl⟩ hC hx hm hsub7 F7 N7
              have hb4 : b.size < 10000 := hsz b (List.mem_of_getElem? hb)
              k_steps
              exact ⟨_, _, rfl, by assumption, newsSub (by k_asm) (by walk_at "my sub"), _, rfl⟩
            · intro ys5 hys5 D5 h7 tk7 F7 N7 o7
              k_steps
              · refine' hret _ _ _ _ ?rFc (newsSub ?rNc ?rsc) ⟨_, congrArg (Value.str · _) (lst_22 hP1 (lstB_2 (by assumption))).symm, rfl⟩
                (case rFc => k_asm)
                (case rNc => k_asm)
                (case rsc => walk_at "my sub")
              · exact IfEnd.next (lstB_ff (by assumption) (by assumption)) (by k_asm) (newsSub (by k_asm) (by walk_at "my sub"))
        · k_steps
          · refine' hret _ _ _ _ ?rFd (newsSub ?rNd ?rsd) ⟨_, congrArg (Value.str · _) (lst_22 hP1 (lstB_1 (by assumption))).symm, rfl⟩
            (case rFd => k_asm)
            (case rNd => k_asm)
            (case rsd => walk_at "my sub")
          · exact IfEnd.next (lstB_ft (by assumption)) (by k_asm) (newsSub (by k_asm) (by walk_at "my sub"))
      · intro h8 tk8 hP2 F8 N8
        k_steps
        refine Stop.go ?_
        walk_at "my compU"
        walk_at "my ledgerU"
        intro g6
        refine comp_map (R' := IsB) (fun b => KBy.picked b (some 2) (some 3)) hcs (srcAt_led (by k_mem)) ?_ ?_
        rotate_left
        · rintro j b v nx C oC m₂ h7 tk7 E' hb ⟨tb, rfl⟩ hC hx hm hsub7 F7 N7
          have hb4 : b.size < 10000 := hsz b (List.mem_of_getElem? hb)
          k_steps
          exact ⟨_, _, rfl, by assumption, newsSub (by k_asm) (by walk_at "my sub"), _, rfl⟩
        · intro ys6 hys6 D6 h7 tk7 F7 N7 o7
          k_steps
          · refine' hret _ _ _ _ ?rFe (newsSub ?rNe ?rse) ⟨_, congrArg (Value.str · _) (lst_02 hP1 hP2 (lstC_1 (by assumption))).symm, rfl⟩
            (case rFe => k_asm)
            (case rNe => k_asm)
            (case rse => walk_at "my sub")
          · exact absurd (by assumption : KBy.picked r (some 2) (some 3) ∈ cs.map fun b => KBy.picked b (some 2) (some 3)) (by assumption)
          · refine Stop.go ?_
            walk_at "my compU"
            walk_at "my ledgerU"
            intro g4
            refine comp_map (R' := IsB) (fun b => KBy.picked b (some 3) none) hcs (srcAt_led (by k_mem)) ?_ ?_
            rotate_left
            · rintro j b v nx C oC m₂ h7 tk7 E' hb ⟨tb, rfl⟩ hC hx hm hsub7 F7 N7
              have hb4 : b.size < 10000 := hsz b (List.mem_of_getElem? hb)
              k_steps
              exact ⟨_, _, rfl, by assumption, newsSub (by k_asm) (by walk_at "my sub"), _, rfl⟩
            · intro ys4 hys4 D4 h7 tk7 F7 N7 o7
              k_steps
              · refine' hret _ _ _ _ ?rFf (newsSub ?rNf ?rsf) ⟨_, congrArg (Value.str · _) (lst_02 hP1 hP2 (lstC_2 (by assumption))).symm, rfl⟩
                (case rFf => k_asm)
                (case rNf => k_asm)
                (case rsf => walk_at "my sub")
              · refine' hret _ _ _ _ ?rFg (newsSub ?rNg ?rsg) ⟨_, congrArg (Value.str · _) (lst_00 hP1 hP2 (lstC_ff (by assumption) (by assumption))).symm, rfl⟩
                (case rFg => k_asm)
                (case rNg => k_asm)
                (case rsg => walk_at "my sub")
end

theorem wdF23 : True := by
  k_with "call ref" => (k_here; (with_reducible show wpAny _ _ (call (Value.ref 229) _) _ _ _); refine stop_ ?_)
  trivial

theorem read_at_c {w : World} {mean : ExcName → Option Value} {mg mb : Str → Option Value} {rest : Led} {o dx c kl st at_ : Addr} {H : Nat → Int} {T : Nat → Tok} {md ac : Str} {tm tac : Tok} {ns rl hi : Value} {nk nc nst : Nat} {vk vc vst : List Value} {ks : List (Int × Int × Bool)} {k : Int × Int × Bool} {cs : List By} {S : List Int} {wi : Int} {t4 tk0 : Tok} {wh nw : Value} {key : By}
    (ho : (o, instObj 199 dx) ∈ rest) (hoff : ∀ p ∈ rest, p.1 ≠ dx) (hkl : (kl, listOf vk.toArray nk) ∈ rest) (hk : All2 (KeyIn rest) vk ks) (hw0 : 0 ≤ wi) (hw1 : wi < 10) (hkw : ks[wi.toNat]? = some k)
    (hc : (c, listOf vc.toArray nc) ∈ rest) (hcs : All2 IsB vc cs) (hst : (st, listOf vst.toArray nst) ∈ rest) (hS : All2 (StIn ks.length rest) vst S) (hSl : S.length = cs.length) (hSn : S.Nodup) (hlen : cs.length < 64) (hsz : ∀ b ∈ cs, b.size < 10000)
    (hmd : (decide (Str.ofString "input" = md) || decide (Str.ofString "i-o" = md)) = true) (hac : ac ≠ Str.ofString "sequential") (hkey : key.size < 10000) :
    Sp w mean mg mb 137 [.ref o, .bytes key tk0, .int wi t4] 30 300 ((dx, kfd H T c (.str md tm) (.str ac tac) kl st ns wh at_ nw rl hi) :: rest) (fun x nw' =>
      ((∀ j, j < cs.length → (kkey k cs S j).1 ≠ key) ∧ ∃ a n t1 t2 t3, x = .ref a ∧ nw' = (a, tupOf #[.str (Str.ofString "23") t1, .bytes #[] t2] n) :: (dx, kfd H T c (.str md tm) (.str ac tac) kl st ns wh at_ (.bool true) (.int (-1) t3) hi) :: rest ∧ a ≠ dx ∧ ∀ p ∈ rest, p.1 ≠ a) ∨
      (∃ i, i < cs.length ∧ (kkey k cs S i).1 = key ∧ (∀ j, j < cs.length → (kkey k cs S j).1 = key → j = i ∨ rowLt (kkey k cs S i) (kkey k cs S j) = true) ∧ ∃ a n ata2 n2 t1 t2 t3 t5 t6, x = .ref a ∧ nw' = (a, tupOf #[.str (fstat k cs S wi i) t1, .bytes (cs.getD i #[]) t2] n) :: (dx, kfd H T c (.str md tm) (.str ac tac) kl st ns (.int wi t4) ata2 (.bool false) (.int (S.getD i 0) t6) hi) :: (ata2, tupOf #[.bytes (fat k cs S wi i).1 t3, .int (fat k cs S wi i).2 t5] n2) :: rest ∧
      a ≠ dx ∧ ata2 ≠ dx ∧ a ≠ ata2 ∧ (∀ p ∈ rest, p.1 ≠ a) ∧ ∀ p ∈ rest, p.1 ≠ ata2)) := by
  have hWz : ∀ i, i < cs.length → (kkey k cs S i).1.size < 10000 := by
    intro i hi'
    have h1 := wor_size k (cs.getD i #[])
    have h2 : (cs.getD i #[]).size < 10000 := by
      have : cs.getD i #[] = cs[i] := by simp [hi']
      rw [this]; exact hsz _ (List.getElem_mem _)
    show (wor k (cs.getD i #[])).size < 10000
    omega
  unfold Sp
  intro d u gd cn cs' a ccd cl outer A₀ base h₀ L m s Q E B F X N TT hck hd hu hret
  refine wpAny_call ?_
  have hne : o ≠ dx := hoff _ ho
  k_dflt (walk_at "my enterD")
  k_steps
  walk_at "my for"
  refine list_search (R := fun l v j => ORow l (kkey k cs S) v j) rfl (by assumption) (by assumption) (by k_mem) (fun l l' v j h hs => h.mono hs) (by assumption) (by walk_at "my sub") (fun j => decide ((kkey k cs S j).1 = key)) ?_ ?_
  · intro i9 a9 v9 h9 tk9 nx hj hbef hrow hsub F9 N9
    obtain ⟨ra, rt1, rt2, rt3, rn9, rfl, hrm⟩ := hrow
    have hdx9 : (dx, kfd H T c (.str md tm) (.str ac tac) kl st ns wh at_ nw rl hi) ∈ nx := hsub _ (by k_mem)
    have hsub9 : ∀ p ∈ rest, p ∈ nx := fun p hp => hsub p (by walk_at "my in")
    have hrd : ra ≠ dx := ne_cls N9 hrm hdx9 tup_dict
    have hleast := least_of (by assumption) (by assumption) hj hbef
    have hcn : (a9 : Nat) < cs.length := hleast.1
    have hz9 := hWz _ hcn
    k_steps
    · refine Stop.go ?_
      refine Sp.use (Sp.sub (found_c (rest := (ra, _) :: rest) (H := H) (T := T) (md := .str md tm) (ac := .str ac tac) (ns := ns) (wh := wh) (at_ := at_) (nw := nw) (rl := rl) (hi := hi) (r1 := rt1) (r2 := rt2) (r3 := rt3) (rn := rn9) (List.mem_cons_of_mem _ ho) (List.forall_mem_cons.mpr ⟨hrd, hoff⟩) (List.mem_cons_of_mem _ hkl) (keys_cons hk) hw0 hw1 hkw (List.mem_cons_of_mem _ hc) hcs (List.mem_cons_of_mem _ hst) (stamps_cons hS) hSl hSn hlen hsz hcn List.mem_cons_self) ?hs) (by k_asm) (by k_asm) (by k_asm) (by k_asm) (by k_asm) (by first | exact rfl | assumption) (by ktr_room) (by ktr_units) ?_
      · exact List.forall_mem_cons.mpr ⟨hdx9, List.forall_mem_cons.mpr ⟨hrm, hsub9⟩⟩
      · rintro r8 nw8 h8 tk8 F8 N8 ⟨a, n, ata2, n2, t1, t2, t3, t5, t6, rfl, rfl, f1, f2, f3, f4, f5⟩
        try k_sweep
        k_steps
        refine' hret _ _ _ _ ?F ?N (.inr ⟨a9, hcn, by assumption, fun j hj2 he => hleast.2 j hj2 (decide_eq_true he), a, n, ata2, n2, t1, t2, t3, t5, t6, rfl, rfl, f1, f2, f3, tail_all f4, tail_all f5⟩)
        (case F => k_asm)
        (case N => exact newsSub (by k_asm) (by walk_at "my subs"))
    · exact RoEnd.next (by assumption) (newsSub (by k_asm) (by walk_at "my sub")) (decide_eq_false (by assumption)) (fun z hz => by simp [hz])
  · intro v' h9 tk9 hP F9 N9
    k_steps
    refine Sp.use (Sp.sub (lose_c (H := H) (T := T) (c := c) (kl := kl) (st := st) (at_ := at_) (md := .str md tm) (ac := .str ac tac) (ns := ns) (wh := wh) (nw := nw) (rl := rl) (hi := hi) ho hoff) ?hsb) (by k_asm) (by k_asm) (by k_asm) (by k_asm) (by k_asm) (by first | exact rfl | assumption) (by ktr_room) (by ktr_units) ?_
    · walk_at "my subs"
    · rintro r8 nw8 h8 tk8 F8 N8 ⟨a, n, t1, t2, rfl, rfl, f1, f4⟩
      try k_sweep
      k_steps
      refine' hret _ _ _ _ ?F2 ?N2 (.inl ⟨fun j hj => of_decide_eq_false (hP _ ((List.Perm.mem_iff (by assumption)).mpr (List.mem_range.mpr hj))), a, n, _, _, _, rfl, rfl, f1, f4⟩)
      (case F2 => k_asm)
      (case N2 => k_asm)

theorem wdF24 : True := by
  k_with "call ref" => (k_here; (with_reducible show wpAny _ _ (call (Value.ref 137) _) _ _ _); refine stop_ ?_)
  trivial

theorem write48_c {w : World} {mean : ExcName → Option Value} {mg mb : Str → Option Value} {news : Led} {o dx c kl st at_ : Addr} {H : Nat → Int} {T : Nat → Tok} {ac : Str} {tm tac t : Tok} {ns wh nw rl hi : Value} {r : By}
    (ho : (o, instObj 199 dx) ∈ news) (hdx : (dx, kfd H T c (.str (Str.ofString "input") tm) (.str ac tac) kl st ns wh at_ nw rl hi) ∈ news) :
    Sp w mean mg mb 178 [.ref o, .bytes r t] 40 400 news (fun x nw => nw = news ∧ ∃ t', x = .str (Str.ofString "48") t') := by
  unfold Sp
  intro d u gd cn cs' a ccd cl outer A₀ base h₀ L m s Q E B F X N TT hck hd hu hret
  refine wpAny_call ?_
  k_dflt ktr_enter
  k_steps
  refine Stop.go ?_
  refine' Sp.use (maywrite_c (b := false) (md := Str.ofString "input") ?wa ?wb (by decide) (by decide)) (by k_asm) (by k_asm) (by k_asm) (by k_asm) (by k_asm) (by first | exact rfl | assumption) (by ktr_room) (by ktr_units) ?_
  (case wa => k_mem)
  (case wb => k_mem)
  rintro r8 nw8 h8 tk8 F8 N8 ⟨rfl, rfl⟩
  try k_sweep
  k_steps
  exact hret _ _ _ _ (by k_asm) (newsSub (by k_asm) (by walk_at "my sub")) ⟨rfl, _, rfl⟩
theorem rewrite49_c {w : World} {mean : ExcName → Option Value} {mg mb : Str → Option Value} {news : Led} {o dx c kl st at_ : Addr} {H : Nat → Int} {T : Nat → Tok} {ac : Str} {tm tac t : Tok} {ns wh nw rl hi : Value} {r : By}
    (ho : (o, instObj 199 dx) ∈ news) (hdx : (dx, kfd H T c (.str (Str.ofString "input") tm) (.str ac tac) kl st ns wh at_ nw rl hi) ∈ news) :
    Sp w mean mg mb 188 [.ref o, .bytes r t] 40 400 news (fun x nw => nw = news ∧ ∃ t', x = .str (Str.ofString "49") t') := by
  unfold Sp
  intro d u gd cn cs' a ccd cl outer A₀ base h₀ L m s Q E B F X N TT hck hd hu hret
  refine wpAny_call ?_
  k_dflt (walk_at "my enterC")
  k_steps
  exact hret _ _ _ _ (by k_asm) (newsSub (by k_asm) (by walk_at "my sub")) ⟨rfl, _, rfl⟩
theorem delete49_c {w : World} {mean : ExcName → Option Value} {mg mb : Str → Option Value} {news : Led} {o dx c kl st at_ : Addr} {H : Nat → Int} {T : Nat → Tok} {ac : Str} {tm tac t : Tok} {ns wh nw rl hi : Value} {r : By}
    (ho : (o, instObj 199 dx) ∈ news) (hdx : (dx, kfd H T c (.str (Str.ofString "input") tm) (.str ac tac) kl st ns wh at_ nw rl hi) ∈ news) :
    Sp w mean mg mb 196 [.ref o, .bytes r t] 40 400 news (fun x nw => nw = news ∧ ∃ t', x = .str (Str.ofString "49") t') := by
  unfold Sp
  intro d u gd cn cs' a ccd cl outer A₀ base h₀ L m s Q E B F X N TT hck hd hu hret
  refine wpAny_call ?_
  k_dflt (walk_at "my enterD")
  k_steps
  exact hret _ _ _ _ (by k_asm) (newsSub (by k_asm) (by walk_at "my sub")) ⟨rfl, _, rfl⟩

theorem wdF25 : True := by
  k_with "call ref" => (k_here; (with_reducible show wpAny _ _ (call (Value.ref 188) _) _ _ _); refine stop_ ?_)
  k_with "call ref" => (k_here; (with_reducible show wpAny _ _ (call (Value.ref 196) _) _ _ _); refine stop_ ?_)
  trivial

theorem st_row {D : Addr} {i : Nat} {t : Tok} {c : Nat} : StIn 3 [(D, listOf (List.replicate (Int.toNat 3) [Value.int (0 + (i : Int)) t]).flatten.toArray c)] (.ref D) (i : Int) :=
  ⟨D, _, c, rfl, List.mem_cons_self, rfl, fun u hu => ⟨t, by
    have e : (List.replicate (Int.toNat 3) [Value.int (0 + (i : Int)) t]).flatten = [Value.int (0 + (i : Int)) t, Value.int (0 + (i : Int)) t, Value.int (0 + (i : Int)) t] := rfl
    rw [e] at hu
    simp only [List.mem_cons, List.not_mem_nil, or_false, or_self] at hu
    rw [hu, Int.zero_add]⟩⟩
theorem Fresh.cons {e : Addr × Obj} {mk l : Led} (h : ∀ p ∈ l, p.1 ≠ e.1) (hm : Fresh mk l) : Fresh (e :: mk) l := fun x hx => (List.mem_cons.mp hx).elim (fun q => q ▸ h) (hm x)
theorem rows_cast {tl mk : Led} {ys : List Value} {n : Nat} (hA : All2 (fun v (i : Nat) => StIn 3 tl v (i : Int)) ys (List.range n)) (hs : ∀ p ∈ tl, p ∈ mk) : All2 (StIn 3 mk) ys ((List.range n).map fun (i : Nat) => (i : Int)) :=
  ⟨by rw [hA.len, List.length_map], fun i v k a b => by
    rw [List.getElem?_map] at b
    obtain ⟨j, e, rfl⟩ := Option.map_eq_some_iff.mp b
    exact (hA.at_ i v j a e).mono hs⟩
/-- behind a statement that may change one object -/
def ClrEnd (h₀ : Heap) (L : Addr) (m : Vars) (g : Obj → Led) (P : Obj → Prop) (s : Shared) (f : Flow) (s₂ : Shared) : Prop := f = .next ∧ ∃ h' tk' D', s₂ = { s with heap := h', toks := tk' } ∧ P D' ∧ Fr h₀ L h' m ∧ News h₀ L h' (g D')
theorem mid_clr {M : Model} {A : Around} {E : Value → Shared → Prop} {Q : Flow → Shared → Prop} {s : Shared} {st : Stmt} {rest : List Stmt} {env : Env} {h₀ : Heap} {L : Addr} {m : Vars} {nw : Led} {d : Addr} {D : Obj} {g : Obj → Led} (P : Obj → Prop) (_F : Fr h₀ L s.heap m) (_N : News h₀ L s.heap nw) (_U : UpdF d D nw g)
    (h1 : wpAny M A (exec st env) (ClrEnd h₀ L m g P s) E s)
    (h2 : ∀ h' tk' D', P D' → Fr h₀ L h' m → News h₀ L h' (g D') → wpAny M A (execs rest env) Q E { s with heap := h', toks := tk' }) : wpAny M A (execs (st :: rest) env) Q E s := by
  refine wpAny_execs_cons (wpAny_mono h1 (fun f s' hq => ?_) fun _ _ e => e)
  obtain ⟨rfl, h', tk', D', rfl, hp, F', N'⟩ := hq
  exact h2 h' tk' D' hp F' N'
/-- the content behind the making: emptied for output -/
def Clr (md : Str) (cs : List By) (D : Obj) : Prop := ∃ vc' nc' cs', D = listOf (vc' : List Value).toArray nc' ∧ All2 IsB vc' cs' ∧ cs'.length < 64 ∧ ((md = Str.ofString "output" ∧ cs' = []) ∨ (md = Str.ofString "input" ∧ cs' = cs))
section
local macro_rules | `(tactic| walk_at "execs cons") => `(tactic| (k_here; (with_reducible show wpAny _ _ (execs (Stmt.If (Expr.Compare _ _ _ _) _ _ _ :: _) _) _ _ _); refine stop_ ?_))
theorem init_c {w : World} {mean : ExcName → Option Value} {mg mb : Str → Option Value} {rest : Led} {c kt al ka kb : Addr} {md ac : Str} {tm tac t1 t2 t3 t4 t5 t6 : Tok} {nc n1 n2 n3 n4 : Nat} {vc : List Value} {cs : List By} {k0 k1 k2 k3 k4 k5 : Int} {b3 b5 : Bool}
    (hoc : ∀ p ∈ rest, p.1 ≠ c) (hcs : All2 IsB vc cs) (hlen : cs.length < 64) (hkt : (kt, tupOf #[.int k0 t1, .int k1 t2] n1) ∈ rest) (hal : (al, listOf #[.ref ka, .ref kb] n2) ∈ rest) (hka : (ka, tupOf #[.int k2 t3, .int k3 t4, .bool b3] n3) ∈ rest) (hkb : (kb, tupOf #[.int k4 t5, .int k5 t6, .bool b5] n4) ∈ rest)
    (hmd : (md = Str.ofString "output" ∧ vc ≠ []) ∨ md = Str.ofString "input") :
    Sp w mean mg mb 199 [.ref c, .str md tm, .str ac tac, .ref kt, .ref al] 30 300 ((c, listOf vc.toArray nc) :: rest) (fun x nw' => ∃ o dx kl st at_ H T mk vk vc' cs' ys nk nst nc' na ta tb tc td te tf tg, x = .ref o ∧ nw' = (dx, kfd H T c (.str md tm) (.str ac tac) kl st (.int ((vc' : List Value).length : Int) tc) (.int 0 td) at_ (.bool false) (.int (-1) te) (.bytes #[] tf)) :: (st, listOf (ys : List Value).toArray nst) :: (c, listOf vc'.toArray nc') :: (mk ++ rest) ∧
      All2 IsB vc' cs' ∧ ((md = Str.ofString "output" ∧ cs' = []) ∨ (md = Str.ofString "input" ∧ cs' = cs)) ∧
      (o, instObj 199 dx) ∈ mk ∧ (kl, listOf (vk : List Value).toArray nk) ∈ mk ∧ All2 (KeyIn ((ka, tupOf #[.int k2 t3, .int k3 t4, .bool b3] n3) :: (kb, tupOf #[.int k4 t5, .int k5 t6, .bool b5] n4) :: mk)) vk [(k0, k1, false), (k2, k3, b3), (k4, k5, b5)] ∧ (at_, tupOf #[.bytes #[] ta, .int (-1) tb] na) ∈ mk ∧ All2 (StIn 3 mk) ys ((List.range cs'.length).map fun (i : Nat) => (i : Int)) ∧
      st ≠ dx ∧ (∀ p ∈ mk, p.1 ≠ dx) ∧ (∀ p ∈ mk, p.1 ≠ st) ∧ c ≠ dx ∧ c ≠ st ∧ (∀ p ∈ rest, p.1 ≠ dx) ∧ (∀ p ∈ rest, p.1 ≠ st) ∧ (∀ p ∈ mk, p.1 ≠ c) ∧ Fresh mk rest ∧ tg = ta) := by
  have hvl : vc.length < 10000 := by have := hcs.len; omega
  have hx9 : md ≠ Str.ofString "extend" := by rcases hmd with ⟨rfl, _⟩ | rfl <;> decide
  unfold Sp
  intro d u gd cn cs' a ccd cl outer A₀ base h₀ L m s Q E B F X N TT hck hd hu hret
  k_dflt (refine' call_cls ?k1 ?k2 ?k3 ?k4 ?k5 ?k6 ?_; (case k1 => k_asm); (case k2 => k_asm); (case k3 => k_asm); (case k4 => k_is); (case k5 => k_is); (case k6 => k_is); k_whole)
  intro x' dx' h' F' N' l1 l2
  (try k_lt l1)
  (try k_lt2 l2)
  (try k_sweep)
  k_dflt (walk_at "my enterC")
  k_steps
  refine Stop.go ?_
  refine' mid_clr (d := c) (D := listOf vc.toArray nc) (Clr md cs) (by k_asm) (by k_asm) ?cU ?_ ?_
  (case cU => k_updF)
  · rcases hmd with ⟨rfl, hne⟩ | rfl
    · cases vc with
      | nil => exact absurd rfl hne
      | cons v0 vt =>
        k_steps
        refine' kl_clear (by k_asm) (by k_asm) ?cv ?cn ?cz ?_
        (case cv => k_upd)
        (case cn => exact Nat.succ_ne_zero _)
        (case cz => (rw [sizeLine_eq]; simp only [List.toList_toArray]; omega))
        intro h9 F9 N9
        k_steps
        exact ⟨rfl, _, _, _, rfl, ⟨[], _, [], rfl, All2.nil, by decide, .inl ⟨rfl, rfl⟩⟩, by k_asm, by k_asm⟩
    · k_steps
      exact ⟨rfl, _, _, _, rfl, ⟨vc, nc, cs, rfl, hcs, hlen, .inr ⟨rfl, rfl⟩⟩, by k_asm, by k_asm⟩
  · rintro h8 tk8 D8 ⟨vc', nc', cs8, rfl, hcs8, hlen8, hmd8⟩ F8 N8
    have hvl8 : vc'.length < 10000 := by have := hcs8.len; omega
    try dsimp only at N8
    k_steps
    refine Stop.go ?_
    walk_at "exec Assign"
    k_steps
    walk_at "my compU"
    walk_at "my rangeU"
    intro g9
    refine comp_build (c := .type "list") (fun l v (i : Nat) => StIn 3 l v (i : Int)) (fun l l' v i h hs => h.mono hs) (fun _ _ => trivial) ?_ ?_
    · intro ys tl hA htl hoff D9 h9 tk9 F9 N9 o9
      have htd : ∀ q ∈ tl, q.1 ≠ dx' := fun q hq => Ne.symm (hoff q hq (dx', _) (by walk_at "my mem"))
      have N9' := news_sw (news_mv (news_mv (news_mv (news_mv (news_mv (news_mv (news_mv (news_mv (pre := [_]) N9))))))))
      clear N9
      simp only [List.cons_append, List.nil_append] at N9'
      have o8 := (off1_app o9).1
      replace o9 := (off1_app o9).2
      simp only [LCg.Off1] at o9
      k_steps
      have o7 := off1_all o9.2.2.2.2.2.2.2.2
      have htl2 : ∀ q ∈ tl, ∀ p ∈ rest, p.1 ≠ q.1 := fun q hq p hp => hoff q hq p (by walk_at "my in")
      rw [hcs8.len] at hA
      refine' hret _ _ _ _ ?iF (newsSub ?iN ?ih) ⟨x', dx', _, D9, _, fun i => [_, _, _, _, _, _, _, _, _, _, _].getD i 0, fun i => [_, _, _, _, _, _, _, _, _, _, _].getD i 0, (x', _) :: (_, listOf #[.ref _, .ref ka, .ref kb] _) :: (_, tupOf #[.int k0 t1, .int k1 t2, .bool false] _) :: (_, tupOf #[.bytes #[] _, .int (-1) _] _) :: tl, [.ref _, .ref ka, .ref kb], vc', cs8, ys, _, _, _, _, _, _, _, _, _, _, _, rfl, rfl, hcs8, hmd8, List.mem_cons_self, List.mem_cons_of_mem _ List.mem_cons_self, ?b1, List.mem_cons_of_mem _ (List.mem_cons_of_mem _ (List.mem_cons_of_mem _ List.mem_cons_self)), rows_cast hA ?b2, ?b3, ?b4, ?b5, ?b9, ?bA, ?b6, ?b7, ?bB, ?b8, rfl⟩
      (case iF => k_asm)
      (case iN => k_asm)
      (case ih => (simp only [List.cons_append]; walk_at "my subs"))
      (case b1 => exact (All2.one (P := KeyIn _) (k := (k0, k1, false)) ⟨_, _, _, _, rfl, List.mem_cons_of_mem _ (List.mem_cons_of_mem _ (List.mem_cons_of_mem _ (List.mem_cons_of_mem _ List.mem_cons_self)))⟩).append ((All2.one (P := KeyIn _) (k := (k2, k3, b3)) ⟨_, _, _, _, rfl, List.mem_cons_self⟩).append (All2.one (P := KeyIn _) (k := (k4, k5, b5)) ⟨_, _, _, _, rfl, List.mem_cons_of_mem _ List.mem_cons_self⟩)))
      (case b2 => exact fun p hp => List.mem_cons_of_mem _ (List.mem_cons_of_mem _ (List.mem_cons_of_mem _ (List.mem_cons_of_mem _ hp))))
      (case b3 => k_ne)
      (case b4 => refine List.forall_mem_cons.mpr ⟨?_, List.forall_mem_cons.mpr ⟨?_, List.forall_mem_cons.mpr ⟨?_, List.forall_mem_cons.mpr ⟨?_, htd⟩⟩⟩⟩ <;> k_ne)
      (case b5 => refine List.forall_mem_cons.mpr ⟨?_, List.forall_mem_cons.mpr ⟨?_, List.forall_mem_cons.mpr ⟨?_, List.forall_mem_cons.mpr ⟨?_, o8⟩⟩⟩⟩ <;> k_ne)
      (case b9 => k_ne)
      (case bA => exact o9.2.2.2.2.2.2.2.1)
      (case bB => refine List.forall_mem_cons.mpr ⟨?_, List.forall_mem_cons.mpr ⟨?_, List.forall_mem_cons.mpr ⟨?_, List.forall_mem_cons.mpr ⟨?_, fun q hq => Ne.symm (hoff q hq (c, _) (by walk_at "my mem"))⟩⟩⟩⟩ <;> k_ne)
      (case b6 => k_all)
      (case b7 => exact o7)
      (case b8 => refine Fresh.cons ?_ (Fresh.cons ?_ (Fresh.cons ?_ (Fresh.cons ?_ htl2))) <;> (dsimp only; first | exact fun p hp => Nat.ne_of_lt (Nat.lt_trans (kst_ltOf l1.2 p hp) l2) | k_all))
    · rintro i v nx C oC m₂ h9 tk9 E' hi ⟨t9, rfl⟩ hC hx hm hsub F9 N9
      k_steps
      rename _ ∧ AllLt _ nx => l9
      refine' ⟨_, _, [(_, _)], rfl, by assumption, newsSub (by k_asm) ?hs, ?hc, ?hf, st_row⟩
      (case hs => walk_at "my subs")
      (case hc => exact fun q hq => by rw [List.mem_singleton.mp hq])
      (case hf => exact fun q hq p hp => by rw [List.mem_singleton.mp hq]; exact Nat.ne_of_lt (kst_ltOf l9.2 p hp))
end

theorem wdF26 : True := by
  k_with "call ref" => (k_here; (with_reducible show wpAny _ _ (call (Value.ref 199) _) _ _ _); refine stop_ ?_)
  trivial

section
variable {prog : Program} {w : World} {A : Around} {E : Value → Shared → Prop} {s : Shared} {value slice : PySem.Expr} {h₀ : Heap} {L : Addr} {m : Str → Option Value} {news : Led} {Q : Value → Shared → Prop}
theorem item_three {l : Addr} {a b c : Str} {t1 t2 t3 u : Tok} {n j : Nat}
    (N : News h₀ L s.heap news) (hl : (l, listOf #[.str a t1, .str b t2, .str c t3] n) ∈ news) (hj : (j : Int) < 3) (h : ∀ md t, (md = a ∨ md = b ∨ md = c) → Q (.str md t) s)
    (hs : subscripted slice false (.ref l) (.int (j : Int) u) = operate [.ref l, .int (j : Int) u] (getItem (.ref l) (.int (j : Int) u)) := by with_unfolding_all rfl) :
    wpAny (model prog w) A (subscriptTail value slice (.ref l) (.int (j : Int) u)) Q E s := by
  match j, hj with
  | 0, _ => exact item_led (vs := [.str a t1, .str b t2, .str c t3]) N hl (by omega) rfl (by omega) (h a t1 (.inl rfl)) hs
  | 1, _ => exact item_led (vs := [.str a t1, .str b t2, .str c t3]) N hl (by omega) rfl (by omega) (h b t2 (.inr (.inl rfl))) hs
  | 2, _ => exact item_led (vs := [.str a t1, .str b t2, .str c t3]) N hl (by omega) rfl (by omega) (h c t3 (.inr (.inr rfl))) hs
  | j + 3, hj => omega
/-- one of the words of a written list -/
theorem item_at {l : Addr} {vs : List Value} {n j : Nat} {u : Tok} (N : News h₀ L s.heap news) (hl : (l, listOf vs.toArray n) ∈ news) (hj : j < vs.length) (hz : vs.length < 1000) (h : ∀ v, vs[j]? = some v → Q v s)
    (hs : subscripted slice false (.ref l) (.int (j : Int) u) = operate [.ref l, .int (j : Int) u] (getItem (.ref l) (.int (j : Int) u)) := by with_unfolding_all rfl) :
    wpAny (model prog w) A (subscriptTail value slice (.ref l) (.int (j : Int) u)) Q E s :=
  item_led (vs := vs) N hl (by omega) (by simpa using List.getElem?_eq_getElem hj) (by omega) (h _ (List.getElem?_eq_getElem hj)) hs
end
theorem wdF27 : True := by
  k_with "subscriptTail" => (k_here; (with_reducible show wpAny _ _ (subscriptTail (Expr.List _ _) _ (Value.ref _) (Value.int _ _)) _ _ _); refine stop_ ?_)
  trivial
theorem wdF28 : True := by
  k_with "my all" => (refine List.forall_mem_cons.mpr ⟨?_, ?_⟩; (focus (first | k_ne | (dsimp only; k_ne))); (first | assumption | exact List.forall_mem_nil _ | k_all))
  trivial

/-! ## the plain law: what stays in order -/
abbrev Row3 := By × Int × By
def row3 (k : Int × Int × Bool) (y : By × Int) : Row3 := (wor k y.1, y.2, y.1)
def rk (x : Row3) : By × Int := (x.1, x.2.1)
/-- a row of the law in the ledger -/
def XRow (led : Led) (v : Value) (x : Row3) : Prop := ∃ a t u t' n, v = .ref a ∧ (a, tupOf #[.bytes x.1 t, .int x.2.1 u, .bytes x.2.2 t'] n) ∈ led
theorem XRow.mono {led led' : Led} {v : Value} {x : Row3} (h : XRow led v x) (hs : ∀ p ∈ led, p ∈ led') : XRow led' v x := let ⟨a, t, u, t', n, e, hm⟩ := h; ⟨a, t, u, t', n, e, hs _ hm⟩
theorem XRow.row {led : Led} {v : Value} {x : Row3} (h : XRow led v x) : RowIn led v (rk x) := let ⟨a, t, u, _, n, e, hm⟩ := h; ⟨a, _, t, u, n, e, hm⟩
theorem mem_zip_at {α β : Type} {l : List α} {r : List β} {y : α × β} : y ∈ l.zip r ↔ ∃ i : Nat, l[i]? = some y.1 ∧ r[i]? = some y.2 := by
  rw [List.mem_iff_getElem?]
  constructor
  · rintro ⟨i, h⟩
    rw [List.getElem?_zip_eq_some] at h
    exact ⟨i, h⟩
  · rintro ⟨i, h⟩
    exact ⟨i, List.getElem?_zip_eq_some.mpr h⟩
theorem zip_in {cs : List By} {S : List Int} (hl : S.length = cs.length) {i : Nat} (hi : i < cs.length) : (cs.getD i #[], S.getD i 0) ∈ cs.zip S := by
  refine mem_zip_at.mpr ⟨i, ?_, ?_⟩
  · simp [hi]
  · have : i < S.length := by omega
    simp [this]
theorem zip_out {cs : List By} {S : List Int} {y : By × Int} (h : y ∈ cs.zip S) : ∃ i, i < cs.length ∧ y = (cs.getD i #[], S.getD i 0) := by
  obtain ⟨i, h1, h2⟩ := mem_zip_at.mp h
  have hi := (List.getElem?_eq_some_iff.mp h1).1
  have hi2 := (List.getElem?_eq_some_iff.mp h2).1
  refine ⟨i, hi, ?_⟩
  obtain ⟨y1, y2⟩ := y
  simp only at h1 h2
  simp [List.getD_eq_getElem?_getD, h1, h2]
theorem rowLt_irrefl (a : By × Int) : rowLt a a = false := by
  cases q : rowLt a a with
  | false => rfl
  | true => have := rowLt_asymm q; rw [q] at this; exact this
/-- has the next row this key -/
def nextIs (w : By) : List Row3 → Bool | [] => false | z :: _ => decide (z.1 = w)
/-- what is left to read, in order: of the rows Z those behind pos -/
structure LeftOk (k : Int × Int × Bool) (pos : By × Int) (Z : List (By × Int)) (X : List Row3) : Prop where
  srt : X.Pairwise (fun a b => rowLt (rk a) (rk b) = true)
  mem : ∀ x, x ∈ X ↔ ∃ y, y ∈ Z ∧ x = row3 k y ∧ rowLt pos (rk x) = true
section
variable {k : Int × Int × Bool} {pos pos' : By × Int} {cs : List By} {S : List Int} {X : List Row3} {x : Row3} {i : Nat}
theorem LeftOk.head (h : LeftOk k pos (cs.zip S) (x :: X)) (hl : S.length = cs.length) (hn : Nxt k cs S pos i) : x = row3 k (cs.getD i #[], S.getD i 0) := by
  obtain ⟨hi, hp, hmin⟩ := hn
  obtain ⟨y, hy, hx, hpx⟩ := (h.mem x).mp List.mem_cons_self
  obtain ⟨j, hj, rfl⟩ := zip_out hy
  have hr : row3 k (cs.getD i #[], S.getD i 0) ∈ x :: X := (h.mem _).mpr ⟨_, zip_in hl hi, rfl, hp⟩
  rcases List.mem_cons.mp hr with e | hr
  · exact e.symm
  · have h1 : rowLt (rk x) (kkey k cs S i) = true := (List.pairwise_cons.mp h.srt).1 _ hr
    rw [hx] at hpx h1
    rcases hmin j hj hpx with rfl | h2
    · exact hx
    · have h3 := rowLt_asymm h1
      rw [show kkey k cs S i = rk (row3 k (cs.getD i #[], S.getD i 0)) from rfl] at h2
      exact absurd (show rowLt (kkey k cs S i) (rk (row3 k (cs.getD j #[], S.getD j 0))) = true from h2) (by rw [h3]; decide)
theorem LeftOk.cons_no (h : LeftOk k pos (cs.zip S) (x :: X)) : ¬ ∀ j, j < cs.length → rowLt pos (kkey k cs S j) = false := fun hn => by
  obtain ⟨y, hy, hx, hpx⟩ := (h.mem x).mp List.mem_cons_self
  obtain ⟨j, hj, rfl⟩ := zip_out hy
  rw [hx] at hpx
  have := hn j hj
  rw [show kkey k cs S j = rk (row3 k (cs.getD j #[], S.getD j 0)) from rfl, hpx] at this
  cases this
theorem LeftOk.step {Z : List (By × Int)} (h : LeftOk k pos Z (x :: X)) : LeftOk k (rk x) Z X := by
  obtain ⟨h1, h2⟩ := List.pairwise_cons.mp h.srt
  obtain ⟨_, _, _, hpx⟩ := (h.mem x).mp List.mem_cons_self
  refine ⟨h2, fun z => ⟨fun hz => ?_, ?_⟩⟩
  · obtain ⟨y, hy, e, _⟩ := (h.mem z).mp (List.mem_cons_of_mem _ hz)
    exact ⟨y, hy, e, h1 z hz⟩
  · rintro ⟨y, hy, e, hlt⟩
    rcases List.mem_cons.mp ((h.mem z).mpr ⟨y, hy, e, rowLt_trans hpx hlt⟩) with e2 | hz
    · rw [e2, rowLt_irrefl] at hlt; cases hlt
    · exact hz
theorem LeftOk.shift {Z : List (By × Int)} (h : LeftOk k pos Z X) (he : ∀ y ∈ Z, rowLt pos' (rk (row3 k y)) = rowLt pos (rk (row3 k y))) : LeftOk k pos' Z X := by
  refine ⟨h.srt, fun x => (h.mem x).trans ⟨?_, ?_⟩⟩
  · rintro ⟨y, hy, rfl, hlt⟩; exact ⟨y, hy, rfl, by rw [he y hy]; exact hlt⟩
  · rintro ⟨y, hy, rfl, hlt⟩; exact ⟨y, hy, rfl, by rw [← he y hy]; exact hlt⟩
end
theorem ord_push : ∀ (a b : List UInt8), a.length = b.length → a ≠ b → Builtin.Bytes.order (a ++ [0]) b = Builtin.Bytes.order a b
  | [], [], _, h => absurd rfl h
  | [], _ :: _, h, _ => by simp at h
  | _ :: _, [], h, _ => by simp at h
  | x :: a, y :: b, hl, hne => by
    simp only [List.cons_append, Builtin.Bytes.order]
    by_cases h1 : x < y
    · simp [h1]
    · by_cases h2 : y < x
      · simp [h1, h2]
      · have e : x = y := UInt8.le_antisymm (UInt8.not_lt.mp h2) (UInt8.not_lt.mp h1)
        subst e
        simp only [h1, if_false, gt_iff_lt]
        exact ord_push a b (by simpa using hl) (fun q => hne (by rw [q]))
theorem ord_push_self : ∀ (a : List UInt8), Builtin.Bytes.order (a ++ [0]) a ≠ .lt
  | [] => by simp [Builtin.Bytes.order]
  | x :: a => by
    simp only [List.cons_append, Builtin.Bytes.order, UInt8.lt_irrefl, if_false, gt_iff_lt]
    exact ord_push_self a
theorem rowLt_push {a b : By} {s t : Int} (hs : a.size = b.size) (hu : a = b → ¬ s < t) : rowLt (a ++ #[0], -1) (b, t) = rowLt (a, s) (b, t) := by
  have hne : a ++ #[0] ≠ b := fun e => by
    have := congrArg Array.size e
    rw [Array.size_append] at this
    simp at this
    omega
  by_cases e : a = b
  · subst e
    have h1 : blt (a ++ #[0]) a = false := by
      simp only [blt, Array.toList_append]
      cases q : Builtin.Bytes.order (a.toList ++ [0]) a.toList == .lt with
      | false => rfl
      | true => exact absurd (eq_of_beq q) (ord_push_self _)
    simp only [rowLt, h1, decide_eq_false hne, blt_irrefl, Bool.false_and, Bool.or_false, Bool.false_or, decide_eq_false (hu rfl), Bool.and_false]
  · have h1 : blt (a ++ #[0]) b = blt a b := by
      simp only [blt, Array.toList_append]
      rw [ord_push a.toList b.toList (by simpa using hs) (fun q => e (Array.toList_inj.mp q))]
    simp only [rowLt, h1, decide_eq_false hne, decide_eq_false e, Bool.false_and]
section
variable {k : Int × Int × Bool} {pos : By × Int} {cs : List By} {S : List Int} {X : List Row3} {x : Row3} {i : Nat} {wi : Int}
/-- the file stands behind the row that was read -/
theorem LeftOk.read (h : LeftOk k pos (cs.zip S) (row3 k (cs.getD i #[], S.getD i 0) :: X)) (hi : i < cs.length)
    (hu : ¬0 < wi → ∀ j, j < cs.length → (wor k (cs.getD i #[])).size = (wor k (cs.getD j #[])).size ∧ (wor k (cs.getD i #[]) = wor k (cs.getD j #[]) → j = i)) :
    LeftOk k (fat k cs S wi i) (cs.zip S) X := by
  by_cases hw : 0 < wi
  · rw [fat_1 hw]; exact h.step
  · rw [fat_0 hw]
    refine h.step.shift fun y hy => ?_
    obtain ⟨j, hj, rfl⟩ := zip_out hy
    obtain ⟨h1, h2⟩ := hu hw j hj
    exact rowLt_push h1 fun e => by rw [h2 e]; exact Int.lt_irrefl _
end
/-! where a START sets the file -/
theorem rowLt_before {a b : By × Int} : rowLt (a.1, a.2 - 1) b = !rowLt b a := by
  rw [Bool.eq_iff_iff]
  simp only [rowLt, Bool.or_eq_true, Bool.and_eq_true, decide_eq_true_eq, Bool.not_eq_true', Bool.or_eq_false_iff, Bool.and_eq_false_iff, decide_eq_false_iff_not]
  constructor
  · rintro (h | ⟨h1, h2⟩)
    · exact ⟨blt_asymm h, .inl fun e => by rw [e, blt_irrefl] at h; cases h⟩
    · exact ⟨by rw [h1, blt_irrefl], .inr (by omega)⟩
  · rintro ⟨h1, h2⟩
    cases q : blt a.1 b.1 with
    | true => exact .inl rfl
    | false =>
      have e := blt_total q h1
      refine .inr ⟨e, ?_⟩
      rcases h2 with h2 | h2
      · exact absurd e.symm h2
      · omega
section
variable {k : Int × Int × Bool} {cs : List By} {S : List Int} {p : List Nat} {i a : Nat}
theorem LeftOk.start (hl : S.length = cs.length) (hp : p.Perm (List.range cs.length)) (hs : (p.map (kkey k cs S)).Pairwise (fun a b => rowLt a b = true)) (ha : p[a]? = some i) :
    LeftOk k ((kkey k cs S i).1, (kkey k cs S i).2 - 1) (cs.zip S) ((p.drop a).map fun j => row3 k (cs.getD j #[], S.getD j 0)) := by
  have hs' : p.Pairwise (fun a b => rowLt (kkey k cs S a) (kkey k cs S b) = true) := List.pairwise_map.mp hs
  have hal := (List.getElem?_eq_some_iff.mp ha).1
  have hd : p.drop a = i :: p.drop (a + 1) := by
    rw [List.drop_eq_getElem_cons hal]
    congr 1
    exact (List.getElem?_eq_some_iff.mp ha).2
  have hsplit : p = p.take a ++ (i :: p.drop (a + 1)) := by rw [← hd, List.take_append_drop]
  have hs2 := hs'
  rw [hsplit, List.pairwise_append] at hs2
  obtain ⟨h1, h2, h3⟩ := hs2
  obtain ⟨h4, h5⟩ := List.pairwise_cons.mp h2
  have hlt : ∀ j ∈ p, j < cs.length := lt_of_pick hp
  refine ⟨?_, fun x => ?_⟩
  · rw [hd]; exact List.pairwise_map.mpr h2
  · rw [List.mem_map]
    constructor
    · rintro ⟨j, hj, rfl⟩
      have hjp : j ∈ p := List.mem_of_mem_drop hj
      refine ⟨_, zip_in hl (hlt j hjp), rfl, ?_⟩
      show rowLt _ (kkey k cs S j) = true
      rw [rowLt_before]
      rw [hd] at hj
      rcases List.mem_cons.mp hj with rfl | hj
      · rw [rowLt_irrefl]; rfl
      · rw [rowLt_asymm (h4 j hj)]; rfl
    · rintro ⟨y, hy, rfl, hlt2⟩
      obtain ⟨j, hj, rfl⟩ := zip_out hy
      refine ⟨j, ?_, rfl⟩
      have hjp : j ∈ p := hp.mem_iff.mpr (List.mem_range.mpr hj)
      rw [hsplit] at hjp
      rcases List.mem_append.mp hjp with q | q
      · have h6 := h3 j q i List.mem_cons_self
        have h7 : rowLt _ (kkey k cs S j) = true := hlt2
        rw [rowLt_before, h6] at h7
        cases h7
      · rw [hd]; exact q
end

/-- the records taken so far, and the highest prime of them -/
structure WOk (ac : Str) (hi : By) (cs : List By) : Prop where
  size : ∀ b ∈ cs, b.size = 4
  nodup : (cs.map (wor (0, 2, false))).Nodup
  top : ac = Str.ofString "sequential" → cs = [] ∨ (hi ∈ cs.map (wor (0, 2, false)) ∧ ∀ c ∈ cs.map (wor (0, 2, false)), blt hi c = false)
theorem WOk.nil {ac : Str} {hi : By} : WOk ac hi [] := ⟨(fun _ h => nomatch h), List.nodup_nil, fun _ => .inl rfl⟩
theorem wor31 {b : By} {d : Bool} (hb : b.size = 4) : wor (3, 1, d) b = KBy.picked b (some 3) none := by
  unfold wor
  rw [KBc.picked_eq, KBc.picked_eq]
  have e : b.toList.length = 4 := hb
  simp [clipAt, hb, e]
  decide
theorem map02 (cs : List By) : cs.map (wor (0, 2, false)) = cs.map fun b => KBy.picked b none (some 2) := List.map_congr_left fun b _ => wor02 b
theorem map31 {cs : List By} {d : Bool} (h : ∀ b ∈ cs, b.size = 4) : cs.map (wor (3, 1, d)) = cs.map fun b => KBy.picked b (some 3) none := List.map_congr_left fun b hb => wor31 (h b hb)
theorem dbl_eq {cs : List By} {r : By} {d : Bool} : dbl cs r (2, 1, true) (3, 1, d) = if oth cs r (3, 1, d) && !d then Str.ofString "22" else if oth cs r (2, 1, true) || oth cs r (3, 1, d) then Str.ofString "02" else Str.ofString "00" := by
  have e : List.range 2 = [0, 1] := rfl
  unfold dbl dblS
  rw [e]
  simp only [List.any_cons, List.any_nil, kTwo, if_true, Nat.one_ne_zero, if_false, Bool.not_true, Bool.and_false, Bool.false_or, Bool.or_false]
theorem lst_dbl {ac : Str} {cs : List By} {r : By} {d : Bool} (hs : ∀ b ∈ cs, b.size = 4) (hr : r.size = 4) (hA : lstA ac cs r = false) (hP : wor (0, 2, false) r ∉ cs.map (wor (0, 2, false))) : lst ac d cs r = dbl cs r (2, 1, true) (3, 1, d) := by
  rw [map02, wor02] at hP
  have e3 : oth cs r (3, 1, d) = decide (KBy.picked r (some 3) none ∈ cs.map fun b => KBy.picked b (some 3) none) := by
    unfold oth
    rw [map31 hs, wor31 hr]
  have e2 : oth cs r (2, 1, true) = decide (KBy.picked r (some 2) (some 3) ∈ cs.map fun b => KBy.picked b (some 2) (some 3)) := rfl
  rw [dbl_eq, e3, e2]
  unfold lst
  rw [hA]
  unfold lstB lstC
  rw [decide_eq_false hP]
  cases d <;> simp
theorem wst_lst {ac : Str} {hi r : By} {cs : List By} {d : Bool} (h : WOk ac hi cs) (hr : r.size = 4) : wst ac cs hi r (0, 2, false) (2, 1, true) (3, 1, d) = lst ac d cs r := by
  unfold wst
  by_cases hac : ac = Str.ofString "sequential"
  · rw [if_pos hac]
    by_cases hcs : cs = []
    · subst hcs
      rw [if_neg (fun q => q.1 rfl)]
      exact (lst_dbl h.size hr lstA_nil (fun q => nomatch q)).symm
    · obtain ⟨h1, h2⟩ := (h.top hac).resolve_left hcs
      cases hb : blt hi (wor (0, 2, false) r) with
      | false =>
        rw [if_pos ⟨hcs, rfl⟩]
        rw [map02] at h1
        rw [wor02] at hb
        subst hac
        exact (lst_21 (lstA_tt h1 hb)).symm
      | true =>
        rw [if_neg (fun q => by have := q.2; cases this)]
        refine (lst_dbl h.size hr ?_ fun q => ?_).symm
        · rw [map02] at h2
          rw [wor02] at hb
          exact lstA_ff h2 hb
        · rw [h2 _ q] at hb; cases hb
  · rw [if_neg hac]
    by_cases hP : wor (0, 2, false) r ∈ cs.map (wor (0, 2, false))
    · rw [if_pos hP]
      rw [map02, wor02] at hP
      exact (lst_22 (lstA_ne hac) (lstB_1 hP)).symm
    · rw [if_neg hP]
      exact (lst_dbl h.size hr (lstA_ne hac) hP).symm
theorem wst_ok {ac : Str} {hi r : By} {cs : List By} {k0 k1 k2 : Int × Int × Bool} (h : WOk ac hi cs) (hk : k0 = (0, 2, false)) (hok : wst ac cs hi r k0 k1 k2 = Str.ofString "00" ∨ wst ac cs hi r k0 k1 k2 = Str.ofString "02") :
    wor k0 r ∉ cs.map (wor k0) ∧ (ac = Str.ofString "sequential" → cs = [] ∨ blt hi (wor k0 r) = true) := by
  subst hk
  unfold wst at hok
  by_cases hac : ac = Str.ofString "sequential"
  · rw [if_pos hac] at hok
    by_cases hcs : cs = []
    · subst hcs; exact ⟨(fun q => nomatch q), fun _ => .inl rfl⟩
    · obtain ⟨h1, h2⟩ := (h.top hac).resolve_left hcs
      cases hb : blt hi (wor (0, 2, false) r) with
      | false =>
        rw [if_pos ⟨hcs, hb⟩] at hok
        rcases hok with q | q <;> exact absurd q (by decide)
      | true => exact ⟨(fun q => by rw [h2 _ q] at hb; cases hb), fun _ => .inr rfl⟩
  · rw [if_neg hac] at hok
    by_cases hP : wor (0, 2, false) r ∈ cs.map (wor (0, 2, false))
    · rw [if_pos hP] at hok
      rcases hok with q | q <;> exact absurd q (by decide)
    · exact ⟨hP, fun q => absurd q hac⟩
theorem WOk.add {ac : Str} {hi r : By} {cs : List By} {k1 k2 : Int × Int × Bool} (h : WOk ac hi cs) (hr : r.size = 4) (hok : wst ac cs hi r (0, 2, false) k1 k2 = Str.ofString "00" ∨ wst ac cs hi r (0, 2, false) k1 k2 = Str.ofString "02") : WOk ac (wor (0, 2, false) r) (cs ++ [r]) := by
  obtain ⟨hP, hT⟩ := wst_ok h rfl hok
  refine ⟨fun b hb => ?_, ?_, fun hac => .inr ⟨?_, fun c hc => ?_⟩⟩
  · rcases List.mem_append.mp hb with hb | hb
    · exact h.size b hb
    · rw [List.mem_singleton.mp hb]; exact hr
  · rw [List.map_append]
    refine List.nodup_append.mpr ⟨h.nodup, by simp, fun a ha b hb e => hP ?_⟩
    rw [List.map_cons, List.map_nil, List.mem_singleton] at hb
    rw [← hb, ← e]
    exact ha
  · rw [List.map_append]; exact List.mem_append_right _ List.mem_cons_self
  · rw [List.map_append] at hc
    rcases List.mem_append.mp hc with hc | hc
    · rcases hT hac with q | q
      · rw [q] at hc; cases hc
      · obtain ⟨_, h2⟩ := (h.top hac).resolve_left (fun e => by rw [e] at hc; cases hc)
        cases e : blt (wor (0, 2, false) r) c with
        | false => rfl
        | true =>
          have := blt_trans q e
          rw [h2 c hc] at this; cases this
    · rw [List.map_cons, List.map_nil, List.mem_singleton] at hc
      rw [hc, blt_irrefl]

theorem All2.map_right' {α β γ : Type} {P : α → β → Prop} {R : α → γ → Prop} {vs : List α} {ks : List β} {g : β → γ} (h : All2 P vs ks) (hp : ∀ v k, k ∈ ks → P v k → R v (g k)) : All2 R vs (ks.map g) :=
  ⟨by rw [List.length_map]; exact h.len, fun i v k a b => by
    rw [List.getElem?_map] at b
    obtain ⟨j, e, rfl⟩ := Option.map_eq_some_iff.mp b
    exact hp _ _ (List.mem_of_getElem? e) (h.at_ i v j a e)⟩
abbrev SS (n : Nat) : List Int := (List.range n).map fun (i : Nat) => (i : Int)
theorem SS_len {n : Nat} : (SS n).length = n := by simp
theorem SS_get {n i : Nat} (h : i < n) : (SS n).getD i 0 = (i : Int) := by simp [h]
theorem SS_nodup {n : Nat} : (SS n).Nodup := by
  refine List.pairwise_map.mpr (List.nodup_range.imp fun h e => h ?_)
  exact Int.ofNat.inj e
theorem kkey_SS {k : Int × Int × Bool} {cs : List By} {i : Nat} (h : i < cs.length) : rk (row3 k (cs.getD i #[], (i : Int))) = kkey k cs (SS cs.length) i := by
  show (_, _) = (_, _)
  rw [SS_get h]; rfl
theorem rows_keys {k : Int × Int × Bool} {cs : List By} {led nw : Led} {ys : List Value} (h : All2 (fun v (i : Nat) => XRow led v (row3 k (cs.getD i #[], (i : Int)))) ys (List.range cs.length)) (hs : ∀ p ∈ led, p ∈ nw) :
    All2 (RowIn nw) ys ((List.range cs.length).map (kkey k cs (SS cs.length))) :=
  ⟨by rw [h.len, List.length_map], fun i v x a b => by
    rw [List.getElem?_map] at b
    obtain ⟨j, e, rfl⟩ := Option.map_eq_some_iff.mp b
    have hj : j < cs.length := List.mem_range.mp (List.mem_of_getElem? e)
    rw [← kkey_SS hj]
    exact ((h.at_ i v j a e).mono hs).row⟩
theorem rows_pick {k : Int × Int × Bool} {cs : List By} {led : Led} {ys : List Value} {p : List Nat} (h : All2 (fun v (i : Nat) => XRow led v (row3 k (cs.getD i #[], (i : Int)))) ys (List.range cs.length)) (hp : p.Perm (List.range cs.length)) :
    All2 (XRow led) (p.map fun i => ys.getD i Value.none) (p.map fun j => row3 k (cs.getD j #[], (SS cs.length).getD j 0)) := by
  have h1 := h.pick (dv := Value.none) (dk := 0) (p := p) (fun i hi => by rw [List.length_range]; exact lt_of_pick hp i hi)
  rw [range_pick hp] at h1
  refine h1.map_right' fun v j hj hr => ?_
  rw [SS_get (lt_of_pick hp j hj)]
  exact hr
theorem WOk.size02 {ac : Str} {hi : By} {cs : List By} (h : WOk ac hi cs) {f : Bool} {i : Nat} (hi' : i < cs.length) : (wor (0, 2, f) (cs.getD i #[])).size = 2 := by
  have e : cs.getD i #[] = cs[i] := by simp [hi']
  have h4 := h.size cs[i] (List.getElem_mem _)
  rw [e, wor02, KBc.picked_eq]
  have h4' : cs[i].toList.length = 4 := h4
  simp only [Option.elim, List.drop_zero, Nat.sub_zero, List.size_toArray, List.length_take]
  have h5 : clipAt (Array.size cs[i]) 2 = 2 := by rw [h4]; rfl
  rw [h5, h4']; rfl
theorem WOk.inj02 {ac : Str} {hi : By} {cs : List By} (h : WOk ac hi cs) {f : Bool} {i j : Nat} (hi' : i < cs.length) (hj : j < cs.length) (e : wor (0, 2, f) (cs.getD i #[]) = wor (0, 2, f) (cs.getD j #[])) : j = i := by
  have ei : cs.getD i #[] = cs[i] := by simp [hi']
  have ej : cs.getD j #[] = cs[j] := by simp [hj]
  rw [ei, ej] at e
  have h1 : j < (cs.map (wor (0, 2, false))).length := by simpa using hj
  have h2 : i < (cs.map (wor (0, 2, false))).length := by simpa using hi'
  exact (List.getElem_inj (h₀ := h1) (h₁ := h2) h.nodup).mp (by rw [List.getElem_map, List.getElem_map]; exact e.symm)
/-- one reading, told by what is left -/
theorem LeftOk.turn {ac : Str} {top : By} {d : Bool} {pos : By × Int} {cs : List By} {S : List Int} {X : List Row3} {x : Row3} {i wi : Nat} (h : LeftOk (lawKey d wi) pos (cs.zip S) (x :: X)) (hl : S.length = cs.length) (hok : WOk ac top cs) (hn : Nxt (lawKey d wi) cs S pos i) :
    LeftOk (lawKey d wi) (fat (lawKey d wi) cs S (wi : Int) i) (cs.zip S) X ∧ x.2.2 = cs.getD i #[] := by
  have hx := h.head hl hn
  subst hx
  refine ⟨h.read hn.1 fun hw0 j hj => ?_, rfl⟩
  have e0 : wi = 0 := by omega
  subst e0
  have ek : lawKey d 0 = (0, 2, false) := rfl
  rw [ek]
  exact ⟨by rw [hok.size02 hn.1, hok.size02 hj], fun e => hok.inj02 hn.1 hj e⟩

theorem cutw {α : Type} {M : Model} {A : Around} {E : Value → Shared → Prop} {Q : α → Shared → Prop} {s : Shared} {x : Sem α} (G : Shared → Prop) (h : G s) (k : ∀ s', G s' → wpAny M A x Q E s') : wpAny M A x Q E s := k s h
theorem fr_put {h₀ : Heap} {L : Addr} {h : Heap} {m : Vars} {x : Str} {v : Value} (F : Fr h₀ L h m) (e : m x = some v) : Fr h₀ L h (fun z => if z = x then some v else m z) := by
  have : (fun z => if z = x then some v else m z) = m := by
    funext z
    by_cases q : z = x
    · rw [if_pos q, q, e]
    · rw [if_neg q]
  rw [this]; exact F
theorem news_front {h₀ : Heap} {L : Addr} {h : Heap} {l : Led} {p : Addr × Obj} (N : News h₀ L h l) (i : Nat) (e : l[i]? = some p) : News h₀ L h (p :: l.eraseIdx i) := fun q hq => by
  rcases List.mem_cons.mp hq with rfl | hq
  · exact N _ (List.mem_of_getElem? e)
  · exact N _ (List.mem_of_mem_eraseIdx hq)
theorem Apart.head {p : Addr × Obj} {mu ro : Led} (h : Apart (p :: mu) ro) : (∀ q ∈ ro, q.1 ≠ p.1) ∧ Apart mu ro := ⟨h p List.mem_cons_self, fun x hx => h x (List.mem_cons_of_mem _ hx)⟩
theorem Apart.cons {p : Addr × Obj} {mu ro : Led} (h : ∀ q ∈ ro, q.1 ≠ p.1) (k : Apart mu ro) : Apart (p :: mu) ro := fun x hx q hq => by
  rcases List.mem_cons.mp hx with rfl | hx
  · exact h q hq
  · exact k x hx q hq
theorem Apart.nil {ro : Led} : Apart [] ro := fun _ h => nomatch h

/-- the keys of the law, as they lie -/
structure KeysIn (R : Led) (d : Bool) (kk kt al ka kb : Addr) : Prop where
  kk : ∃ n, (kk, tupOf #[.ref kt, .ref al] n) ∈ R
  kt : ∃ t1 t2 n, (kt, tupOf #[.int 0 t1, .int 2 t2] n) ∈ R
  al : ∃ n, (al, listOf #[.ref ka, .ref kb] n) ∈ R
  ka : ∃ t1 t2 n, (ka, tupOf #[.int 2 t1, .int 1 t2, .bool true] n) ∈ R
  kb : ∃ t1 t2 n, (kb, tupOf #[.int 3 t1, .int 1 t2, .bool d] n) ∈ R
/-- what stands when the file for output is made -/
inductive MidA (h₀ : Heap) (L : Addr) (s : Shared) : Shared → Prop
  | mk {h : Heap} {tk : Nat} {dx st c bag tl kk kt al ka kb o kl at_ : Addr} {mb : Vars} {H : Nat → Int} {T : Nat → Tok} {ac : Str} {d : Bool} {vk : List Value} {o1 o2 o3 : Obj} {top bN : Int} {t1 t2 tm tac td te tf tn bt : Tok} {nc nst nt bn nk : Nat} {R : Led}
    (F : Fr h₀ L h (fun z => if z = Str.ofString "made" then some (.ref o) else if z = Str.ofString "taken" then some (.ref tl) else if z = Str.ofString "top" then some (.int top t1) else if z = Str.ofString "keys" then some (.ref kk) else if z = Str.ofString "access" then some (.str ac t2) else if z = Str.ofString "is_double" then some (.bool d) else if z = Str.ofString "content" then some (.ref c) else if z = Str.ofString "bag" then some (.ref bag) else mb z))
    (N : News h₀ L h ((c, listOf #[] nc) :: (st, listOf #[] nst) :: (dx, kfd H T c (.str (Str.ofString "output") tm) (.str ac tac) kl st (.int 0 tn) (.int 0 td) at_ (.bool false) (.int (-1) te) (.bytes #[] tf)) :: (bag, listOf #[.int bN bt] bn) :: (tl, listOf #[] nt) :: (L + 1, o1) :: (L + 1 + 1, o2) :: (L + 1 + 1 + 1, o3) :: R))
    (ho1 : ∃ v, o1.data = .cell v) (ho2 : ∃ v, o2.data = .cell v) (ho3 : ∃ v, o3.data = .cell v) (hK : KeysIn R d kk kt al ka kb)
    (ho : (o, instObj 199 dx) ∈ R) (hkl : (kl, listOf vk.toArray nk) ∈ R) (hk : All2 (KeyIn R) vk [(0, 2, false), (2, 1, true), (3, 1, d)])
    (hac : ac = Str.ofString "sequential" ∨ ac = Str.ofString "random" ∨ ac = Str.ofString "dynamic")
    (n1 : c ≠ st) (n2 : c ≠ dx) (n3 : c ≠ bag) (n4 : c ≠ tl) (n5 : st ≠ dx) (n6 : st ≠ bag) (n7 : st ≠ tl) (n8 : dx ≠ bag) (n9 : dx ≠ tl) (n10 : bag ≠ tl) (n11 : c ≠ L + 1) (n12 : c ≠ L + 1 + 1) (n13 : c ≠ L + 1 + 1 + 1) (n14 : st ≠ L + 1) (n15 : st ≠ L + 1 + 1) (n16 : st ≠ L + 1 + 1 + 1) (n17 : dx ≠ L + 1) (n18 : dx ≠ L + 1 + 1) (n19 : dx ≠ L + 1 + 1 + 1) (n20 : bag ≠ L + 1) (n21 : bag ≠ L + 1 + 1) (n22 : bag ≠ L + 1 + 1 + 1) (n23 : tl ≠ L + 1) (n24 : tl ≠ L + 1 + 1) (n25 : tl ≠ L + 1 + 1 + 1)
    (a1 : ∀ p ∈ R, p.1 ≠ c) (a2 : ∀ p ∈ R, p.1 ≠ st) (a3 : ∀ p ∈ R, p.1 ≠ dx) (a4 : ∀ p ∈ R, p.1 ≠ bag) (a5 : ∀ p ∈ R, p.1 ≠ tl) (a6 : ∀ p ∈ R, p.1 ≠ L + 1) (a7 : ∀ p ∈ R, p.1 ≠ L + 1 + 1) (a8 : ∀ p ∈ R, p.1 ≠ L + 1 + 1 + 1) : MidA h₀ L s { s with heap := h, toks := tk }
theorem write_l {w : World} {mean : ExcName → Option Value} {mg mb : Str → Option Value} {rest : Led} {o dx c kl st at_ : Addr} {H : Nat → Int} {T : Nat → Tok} {ac : Str} {tm tac : Tok} {wh nw rl : Value} {nk nc nst : Nat} {vk vc vst : List Value} {d : Bool} {hi r : By} {cs : List By} {t tn thi : Tok} {n : Int}
    (ho : (o, instObj 199 dx) ∈ rest) (hcst : c ≠ st) (hcd : dx ≠ c) (hsd : dx ≠ st) (hoff : ∀ p ∈ rest, p.1 ≠ dx) (hoc : ∀ p ∈ rest, p.1 ≠ c) (hos : ∀ p ∈ rest, p.1 ≠ st) (hkl : (kl, listOf vk.toArray nk) ∈ rest) (hk : All2 (KeyIn rest) vk [(0, 2, false), (2, 1, true), (3, 1, d)])
    (hcs : All2 IsB vc cs) (hvs : vst.length = vc.length) (hlen : cs.length < 63) (hok : WOk ac hi cs) (hr : r.size = 4) :
    Sp w mean mg mb 178 [.ref o, .bytes r t] 40 400 ((c, listOf vc.toArray nc) :: (st, listOf vst.toArray nst) :: (dx, kfd H T c (.str (Str.ofString "output") tm) (.str ac tac) kl st (.int n tn) wh at_ nw rl (.bytes hi thi)) :: rest) (fun x nw' =>
      (∃ D us n1 n2 n3 t1 t2 t3 t4, x = .str (lst ac d cs r) t1 ∧ (lst ac d cs r = Str.ofString "00" ∨ lst ac d cs r = Str.ofString "02") ∧
        nw' = (c, listOf (vc ++ [Value.bytes r t]).toArray n1) :: (st, listOf (vst ++ [Value.ref D]).toArray n2) :: (dx, kfd H T c (.str (Str.ofString "output") tm) (.str ac tac) kl st (.int (n + 1) t2) wh at_ nw (.int (-1) t3) (.bytes (wor (0, 2, false) r) t4)) :: (D, listOf (us : List Value).toArray n3) :: rest ∧
        us.length = 3 ∧ (∀ u ∈ us, ∃ t, u = .int n t) ∧ D ≠ c ∧ D ≠ st ∧ D ≠ dx ∧ ∀ p ∈ rest, p.1 ≠ D) ∨
      (∃ t1 t3, x = .str (lst ac d cs r) t1 ∧ (lst ac d cs r = Str.ofString "21" ∨ lst ac d cs r = Str.ofString "22") ∧
        nw' = (c, listOf vc.toArray nc) :: (st, listOf vst.toArray nst) :: (dx, kfd H T c (.str (Str.ofString "output") tm) (.str ac tac) kl st (.int n tn) wh at_ nw (.int (-1) t3) (.bytes hi thi)) :: rest)) := by
  have h := write_c (ac := ac) (tm := tm) (tac := tac) (wh := wh) (nw := nw) (rl := rl) (nc := nc) (nst := nst) (H := H) (T := T) (hi := hi) (r := r) (t := t) (tn := tn) (thi := thi) (n := n) (w := w) (mean := mean) (mg := mg) (mb := mb) (at_ := at_) ho hcst hcd hsd hoff hoc hos hkl hk hcs hvs hlen (fun b hb => by rw [hok.size b hb]; decide) (by rw [hr]; decide)
  simp only [wst_lst hok hr] at h
  exact h
/-- what the loop that writes keeps: as many bytes in the content as in the list of those taken -/
inductive WJ (c st dx bag tl kl at_ : Addr) (H : Nat → Int) (T : Nat → Tok) (ac : Str) (tm tac : Tok) (wh nw : Value) (i : Nat) : Option Value → Led → Prop
  | mk {top bN n : Int} {t bt tn te tf : Tok} {vc vt vst : List Value} {cs : List By} {hi : By} {nc nst bn nt : Nat}
    (hvc : All2 IsB vc cs) (hvt : All2 IsB vt cs) (hvs : vst.length = vc.length) (hlen : cs.length ≤ i) (hok : WOk ac hi cs) :
    WJ c st dx bag tl kl at_ H T ac tm tac wh nw i (some (.int top t)) [(c, listOf vc.toArray nc), (st, listOf vst.toArray nst), (dx, kfd H T c (.str (Str.ofString "output") tm) (.str ac tac) kl st (.int n tn) wh at_ nw (.int (-1) te) (.bytes hi tf)), (bag, listOf #[.int bN bt] bn), (tl, listOf vt.toArray nt)]
theorem MidA.wj0 {c st dx bag tl kl at_ : Addr} {H : Nat → Int} {T : Nat → Tok} {ac : Str} {tm tac t te tf tn bt : Tok} {wh nw : Value} {top bN : Int} {nc nst bn nt : Nat} :
    WJ c st dx bag tl kl at_ H T ac tm tac wh nw 0 (some (.int top t)) [(c, listOf #[] nc), (st, listOf #[] nst), (dx, kfd H T c (.str (Str.ofString "output") tm) (.str ac tac) kl st (.int 0 tn) wh at_ nw (.int (-1) te) (.bytes #[] tf)), (bag, listOf #[.int bN bt] bn), (tl, listOf #[] nt)] :=
  WJ.mk (vc := []) (vt := []) (vst := []) (cs := []) All2.nil All2.nil rfl (Nat.le_refl _) WOk.nil
theorem int_of_four {a b c d : Int} {t1 t2 t3 t4 : Tok} {j : Nat} {v : Value} (h : [Value.int a t1, .int b t2, .int c t3, .int d t4][j]? = some v) : ∃ z t, v = Value.int z t := by
  match j, h with
  | 0, h => exact ⟨_, _, (Option.some.inj h).symm⟩
  | 1, h => exact ⟨_, _, (Option.some.inj h).symm⟩
  | 2, h => exact ⟨_, _, (Option.some.inj h).symm⟩
  | 3, h => exact ⟨_, _, (Option.some.inj h).symm⟩
  | j + 4, h => simp at h
theorem WOk.addl {ac : Str} {hi r : By} {cs : List By} {d : Bool} (h : WOk ac hi cs) (hr : r.size = 4) (hok : lst ac d cs r = Str.ofString "00" ∨ lst ac d cs r = Str.ofString "02") : WOk ac (wor (0, 2, false) r) (cs ++ [r]) := by
  rw [← wst_lst h hr] at hok
  exact h.add hr hok
/-- what stands when all is written: content and taken are alike -/
inductive MidW (h₀ : Heap) (L : Addr) (s : Shared) : Shared → Prop
  | mk {h : Heap} {tk : Nat} {c tl kk kt al ka kb : Addr} {mb : Vars} {ac : Str} {d : Bool} {vc vt : List Value} {cs : List By} {hi : By} {o1 o2 o3 : Obj} {nc nt : Nat} {R : Led}
    (F : Fr h₀ L h (fun z => if z = Str.ofString "taken" then some (.ref tl) else if z = Str.ofString "keys" then some (.ref kk) else if z = Str.ofString "content" then some (.ref c) else mb z))
    (N : News h₀ L h ((c, listOf vc.toArray nc) :: (L + 1, o1) :: (L + 1 + 1, o2) :: (L + 1 + 1 + 1, o3) :: R))
    (ho1 : ∃ v, o1.data = .cell v) (ho2 : ∃ v, o2.data = .cell v) (ho3 : ∃ v, o3.data = .cell v) (hK : KeysIn R d kk kt al ka kb) (htl : (tl, listOf vt.toArray nt) ∈ R)
    (hvc : All2 IsB vc cs) (hvt : All2 IsB vt cs) (hlen : cs.length < 63) (hok : WOk ac hi cs)
    (n1 : c ≠ L + 1) (n2 : c ≠ L + 1 + 1) (n3 : c ≠ L + 1 + 1 + 1) (n4 : c ≠ tl)
    (a1 : ∀ p ∈ R, p.1 ≠ c) (a2 : ∀ p ∈ R, p.1 ≠ L + 1) (a3 : ∀ p ∈ R, p.1 ≠ L + 1 + 1) (a4 : ∀ p ∈ R, p.1 ≠ L + 1 + 1 + 1) : MidW h₀ L s { s with heap := h, toks := tk }
theorem KeysIn.mono {R R' : Led} {d : Bool} {kk kt al ka kb : Addr} (h : KeysIn R d kk kt al ka kb) (hs : ∀ p ∈ R, p ∈ R') : KeysIn R' d kk kt al ka kb :=
  ⟨let ⟨n, q⟩ := h.kk; ⟨n, hs _ q⟩, let ⟨a, b, n, q⟩ := h.kt; ⟨a, b, n, hs _ q⟩, let ⟨n, q⟩ := h.al; ⟨n, hs _ q⟩, let ⟨a, b, n, q⟩ := h.ka; ⟨a, b, n, hs _ q⟩, let ⟨a, b, n, q⟩ := h.kb; ⟨a, b, n, hs _ q⟩⟩
/-- what stands when the file for input is made -/
inductive MidB (h₀ : Heap) (L o : Addr) (s : Shared) : Shared → Prop
  | mk {h : Heap} {tk : Nat} {dx st c tl kl at_ : Addr} {mb : Vars} {H : Nat → Int} {T : Nat → Tok} {ac : Str} {d : Bool} {vc vt vk ys : List Value} {cs : List By} {top : By} {o1 o2 o3 : Obj} {tm tac td te tf : Tok} {ns : Value} {nst nc nt nk : Nat} {R : Led}
    (F : Fr h₀ L h (fun z => if z = Str.ofString "taken" then some (.ref tl) else if z = Str.ofString "content" then some (.ref c) else mb z))
    (N : News h₀ L h ((L + 1, o1) :: (dx, kfd H T c (.str (Str.ofString "input") tm) (.str (Str.ofString "dynamic") tac) kl st ns (.int 0 td) at_ (.bool false) (.int (-1) te) (.bytes #[] tf)) :: (L + 1 + 1, o2) :: (L + 1 + 1 + 1, o3) :: R))
    (ho1 : ∃ v, o1.data = .cell v) (ho2 : ∃ v, o2.data = .cell v) (ho3 : ∃ v, o3.data = .cell v) (hst : (st, listOf ys.toArray nst) ∈ R) (hc : (c, listOf vc.toArray nc) ∈ R) (htl : (tl, listOf vt.toArray nt) ∈ R)
    (ho : (o, instObj 199 dx) ∈ R) (hkl : (kl, listOf vk.toArray nk) ∈ R) (hk : All2 (KeyIn R) vk [(0, 2, false), (2, 1, true), (3, 1, d)]) (hS : All2 (StIn 3 R) ys (SS cs.length))
    (hvc : All2 IsB vc cs) (hvt : All2 IsB vt cs) (hlen : cs.length < 63) (hok : WOk ac top cs)
    (n1 : dx ≠ L + 1) (n2 : dx ≠ L + 1 + 1) (n3 : dx ≠ L + 1 + 1 + 1)
    (a1 : ∀ p ∈ R, p.1 ≠ dx) (a2 : ∀ p ∈ R, p.1 ≠ L + 1) (a3 : ∀ p ∈ R, p.1 ≠ L + 1 + 1) (a4 : ∀ p ∈ R, p.1 ≠ L + 1 + 1 + 1) : MidB h₀ L o s { s with heap := h, toks := tk }
/-- what the loop over the keys keeps -/
inductive KJ (dx st c kl a2 a3 : Addr) (H : Nat → Int) (T : Nat → Tok) (tm tac : Tok) (ns hi : Value) : Led → Prop
  | mk {wh nw rl : Value} {at3 : Addr} {o2 o3 : Obj} (ho2 : ∃ v, o2.data = .cell v) (ho3 : ∃ v, o3.data = .cell v) :
    KJ dx st c kl a2 a3 H T tm tac ns hi [(dx, kfd H T c (.str (Str.ofString "input") tm) (.str (Str.ofString "dynamic") tac) kl st ns wh at3 nw rl hi), (a2, o2), (a3, o3)]
/-- in a turn of the loop over the keys: the rows are sorted -/
inductive TnA (h₀ : Heap) (L o dx st c kl : Addr) (H : Nat → Int) (T : Nat → Tok) (tm tac tf : Tok) (ns : Value) (d : Bool) (i : Nat) (ro : Led) (m₀ : Vars) (D8 : Addr) (s : Shared) : Shared → Prop
  | mk {h : Heap} {tk : Nat} {at3 : Addr} {wh nw rl : Value} {ac : Str} {vc vk ys rv : List Value} {cs : List By} {top : By} {o1 o2 o3 : Obj} {p1 p2 p3 p4 : Option Value} {t9 : Tok} {nst nc nk c8 : Nat} {p8 : List Nat} {RR : Led}
    (F : Fr h₀ L h (fun z => if z = Str.ofString "rows" then p1 else if z = Str.ofString "first" then p2 else if z = Str.ofString "found" then p3 else if z = Str.ofString "found" then p4 else m₀ z))
    (N : News h₀ L h ((dx, kfd H T c (.str (Str.ofString "input") tm) (.str (Str.ofString "dynamic") tac) kl st ns wh at3 nw rl (.bytes #[] tf)) :: (L + 1 + 1, o2) :: (L + 1 + 1 + 1, o3) :: RR))
    (hL1 : (L + 1, o1) ∈ RR) (ho1 : o1.data = .cell (some (.ref o))) (ho2 : o2.data = .cell (some (.int (i : Int) t9))) (ho3 : ∃ v, o3.data = .cell v)
    (hst : (st, listOf ys.toArray nst) ∈ RR) (hc : (c, listOf vc.toArray nc) ∈ RR) (ho : (o, instObj 199 dx) ∈ RR) (hkl : (kl, listOf vk.toArray nk) ∈ RR) (hk : All2 (KeyIn RR) vk [(0, 2, false), (2, 1, true), (3, 1, d)]) (hS : All2 (StIn 3 RR) ys (SS cs.length))
    (hvc : All2 IsB vc cs) (hlen : cs.length < 63) (hok : WOk ac top cs) (hi : i < 3) (hD8 : (D8, listOf rv.toArray c8) ∈ RR) (hX : All2 (XRow RR) rv (p8.map fun j => row3 (lawKey d i) (cs.getD j #[], (SS cs.length).getD j 0)))
    (hp8 : p8.Perm (List.range cs.length)) (hpw8 : (p8.map (kkey (lawKey d i) cs (SS cs.length))).Pairwise (fun a b => rowLt a b = true))
    (hsub : ∀ p ∈ ro, p ∈ RR) (n2 : dx ≠ L + 1 + 1) (n3 : dx ≠ L + 1 + 1 + 1) (y1 : ∀ p ∈ RR, p.1 ≠ dx) (y2 : ∀ p ∈ RR, p.1 ≠ L + 1 + 1) (y3 : ∀ p ∈ RR, p.1 ≠ L + 1 + 1 + 1) : TnA h₀ L o dx st c kl H T tm tac tf ns d i ro m₀ D8 s { s with heap := h, toks := tk }
theorem lawKey_get {d : Bool} {i : Nat} (hi : i < 3) : ([(0, 2, false), (2, 1, true), (3, 1, d)] : List (Int × Int × Bool))[((i : Nat) : Int).toNat]? = some (lawKey d i) := by
  match i, hi with
  | 0, _ => rfl
  | 1, _ => rfl
  | 2, _ => rfl
  | i + 3, h => omega
theorem by_of_three {a b c : By} {t1 t2 t3 : Tok} {j : Nat} {v : Value} (h : [Value.bytes a t1, .bytes b t2, .bytes c t3][j]? = some v) (ha : a.size < 10000) (hb : b.size < 10000) (hc : c.size < 10000) : ∃ z t, v = Value.bytes z t ∧ z.size < 10000 := by
  match j, h with
  | 0, h => exact ⟨_, _, (Option.some.inj h).symm, ha⟩
  | 1, h => exact ⟨_, _, (Option.some.inj h).symm, hb⟩
  | 2, h => exact ⟨_, _, (Option.some.inj h).symm, hc⟩
  | j + 3, h => simp at h
/-- in a turn: the key is told and the first rows that have it -/
inductive TnB (h₀ : Heap) (L o dx st c kl : Addr) (H : Nat → Int) (T : Nat → Tok) (tm tac tf : Tok) (ns : Value) (d : Bool) (i : Nat) (ro : Led) (m₀ : Vars) (kb : By) (s : Shared) : Shared → Prop
  | mk {h : Heap} {tk : Nat} {at3 D1 D8 : Addr} {wh nw rl : Value} {ac : Str} {vc vk ys rv ys1 : List Value} {cs : List By} {top : By} {o1 o2 o3 : Obj} {t9 tkb : Tok} {nst nc nk c8 : Nat} {p8 : List Nat} {RR : Led} {mb : Vars}
    (F : Fr h₀ L h (fun z => if z = Str.ofString "first" then some (.ref D1) else if z = Str.ofString "rows" then some (.ref D8) else mb z))
    (hmb : ∀ z, z ≠ Str.ofString "rows" → z ≠ Str.ofString "first" → z ≠ Str.ofString "found" → mb z = m₀ z)
    (N : News h₀ L h ((dx, kfd H T c (.str (Str.ofString "input") tm) (.str (Str.ofString "dynamic") tac) kl st ns wh at3 nw rl (.bytes #[] tf)) :: (L + 1 + 1, o2) :: (L + 1 + 1 + 1, o3) :: RR))
    (hL1 : (L + 1, o1) ∈ RR) (ho1 : o1.data = .cell (some (.ref o))) (ho2 : o2.data = .cell (some (.int (i : Int) t9))) (ho3 : o3.data = .cell (some (.bytes kb tkb)))
    (hst : (st, listOf ys.toArray nst) ∈ RR) (hc : (c, listOf vc.toArray nc) ∈ RR) (ho : (o, instObj 199 dx) ∈ RR) (hkl : (kl, listOf vk.toArray nk) ∈ RR) (hk : All2 (KeyIn RR) vk [(0, 2, false), (2, 1, true), (3, 1, d)]) (hS : All2 (StIn 3 RR) ys (SS cs.length))
    (hvc : All2 IsB vc cs) (hlen : cs.length < 63) (hok : WOk ac top cs) (hi : i < 3) (hkb : kb.size < 10000) (hD8 : (D8, listOf rv.toArray c8) ∈ RR) (hX : All2 (XRow RR) rv (p8.map fun j => row3 (lawKey d i) (cs.getD j #[], (SS cs.length).getD j 0)))
    (hp8 : p8.Perm (List.range cs.length)) (hpw8 : (p8.map (kkey (lawKey d i) cs (SS cs.length))).Pairwise (fun a b => rowLt a b = true))
    (hD1 : (D1, LCg.lst ys1) ∈ RR) (hys : All2 IsB ys1 ((p8.filter fun j => decide ((kkey (lawKey d i) cs (SS cs.length) j).1 = kb)).map fun j => cs.getD j #[]))
    (hsub : ∀ p ∈ ro, p ∈ RR) (n2 : dx ≠ L + 1 + 1) (n3 : dx ≠ L + 1 + 1 + 1) (y1 : ∀ p ∈ RR, p.1 ≠ dx) (y2 : ∀ p ∈ RR, p.1 ≠ L + 1 + 1) (y3 : ∀ p ∈ RR, p.1 ≠ L + 1 + 1 + 1) : TnB h₀ L o dx st c kl H T tm tac tf ns d i ro m₀ kb s { s with heap := h, toks := tk }
theorem rows_so {k : Int × Int × Bool} {cs : List By} {p8 : List Nat} {kb : By} : ((p8.map fun j => row3 k (cs.getD j #[], (SS cs.length).getD j 0)).filter fun x => decide (x.1 = kb)).map (fun x => x.2.2) = (p8.filter fun j => decide ((kkey k cs (SS cs.length) j).1 = kb)).map fun j => cs.getD j #[] := by
  rw [List.filter_map, List.map_map]
  rfl
theorem eqAt_bool (A : Around) (s : Shared) (a b : Bool) : PySem.SeqAt.EqAt A s (.bool a) (.bool b) (a == b) := PySem.SeqAt.EqAt.bool_bool a b
/-- in a turn: the file is asked by the key, and answers as the law says -/
inductive TnC (h₀ : Heap) (L o dx st c kl : Addr) (H : Nat → Int) (T : Nat → Tok) (tm tac tf : Tok) (ns : Value) (d : Bool) (i : Nat) (ro : Led) (m₀ : Vars) (s : Shared) : Shared → Prop
  | mk {h : Heap} {tk : Nat} {at3 D8 : Addr} {wh nw rl : Value} {ac : Str} {vc vk ys rv : List Value} {cs : List By} {top : By} {o1 o2 o3 : Obj} {t9 : Tok} {nst nc nk c8 : Nat} {p8 : List Nat} {RR : Led} {mb : Vars}
    (F : Fr h₀ L h (fun z => if z = Str.ofString "rows" then some (.ref D8) else mb z))
    (hmb : ∀ z, z ≠ Str.ofString "rows" → z ≠ Str.ofString "first" → z ≠ Str.ofString "found" → mb z = m₀ z)
    (N : News h₀ L h ((dx, kfd H T c (.str (Str.ofString "input") tm) (.str (Str.ofString "dynamic") tac) kl st ns wh at3 nw rl (.bytes #[] tf)) :: (L + 1 + 1, o2) :: (L + 1 + 1 + 1, o3) :: RR))
    (hL1 : (L + 1, o1) ∈ RR) (ho1 : o1.data = .cell (some (.ref o))) (ho2 : o2.data = .cell (some (.int (i : Int) t9))) (ho3 : ∃ v, o3.data = .cell v)
    (hst : (st, listOf ys.toArray nst) ∈ RR) (hc : (c, listOf vc.toArray nc) ∈ RR) (ho : (o, instObj 199 dx) ∈ RR) (hkl : (kl, listOf vk.toArray nk) ∈ RR) (hk : All2 (KeyIn RR) vk [(0, 2, false), (2, 1, true), (3, 1, d)]) (hS : All2 (StIn 3 RR) ys (SS cs.length))
    (hvc : All2 IsB vc cs) (hlen : cs.length < 63) (hok : WOk ac top cs) (hi : i < 3) (hD8 : (D8, listOf rv.toArray c8) ∈ RR) (hX : All2 (XRow RR) rv (p8.map fun j => row3 (lawKey d i) (cs.getD j #[], (SS cs.length).getD j 0)))
    (hp8 : p8.Perm (List.range cs.length)) (hpw8 : (p8.map (kkey (lawKey d i) cs (SS cs.length))).Pairwise (fun a b => rowLt a b = true))
    (hsub : ∀ p ∈ ro, p ∈ RR) (n2 : dx ≠ L + 1 + 1) (n3 : dx ≠ L + 1 + 1 + 1) (y1 : ∀ p ∈ RR, p.1 ≠ dx) (y2 : ∀ p ∈ RR, p.1 ≠ L + 1 + 1) (y3 : ∀ p ∈ RR, p.1 ≠ L + 1 + 1 + 1) : TnC h₀ L o dx st c kl H T tm tac tf ns d i ro m₀ s { s with heap := h, toks := tk }
section
variable {prog : Program} {w : World} {A : Around} {E : Value → Shared → Prop} {s : Shared} {h₀ : Heap} {L a b : Addr} {news : Led} {Q : Value → Shared → Prop}
theorem ne_pair_ff {p q p' q' : Value} {e₁ e₂ : Bool} {n n2 : Nat} (N : News h₀ L s.heap news) (ha : (a, tupOf #[p, q] n) ∈ news) (hb : (b, tupOf #[p', q'] n2) ∈ news) (hu : A.units < cLine) (h1 : PySem.SeqAt.EqAt A.in1 s p p' e₁) (h2 : PySem.SeqAt.EqAt A.in1 s q q' e₂) (k1 : e₁ = true) (k2 : e₂ = true) (h : Q (.bool false) s) :
    wpAny (model prog w) A (compareOp .NotEq (.ref a) (.ref b)) Q E s := ne_pair N ha hb hu h1 h2 (by rw [k1, k2]; exact h)
end
theorem fstat_two {k : Int × Int × Bool} {cs : List By} {S : List Int} {wi : Int} {i : Nat} : fstat k cs S wi i = Str.ofString "00" ∨ fstat k cs S wi i = Str.ofString "02" := by
  unfold fstat
  split
  · exact .inr rfl
  · exact .inl rfl
/-- in a turn: the file stands ahead of all that is to be read -/
inductive TnD (h₀ : Heap) (L o dx st c kl : Addr) (H : Nat → Int) (T : Nat → Tok) (tm tac tf : Tok) (ns : Value) (d : Bool) (i : Nat) (ro : Led) (m₀ : Vars) (s : Shared) : Shared → Prop
  | mk {h : Heap} {tk : Nat} {at3 D8 : Addr} {wh nw rl : Value} {ac : Str} {vc vk ys rv : List Value} {cs : List By} {top : By} {o1 o2 o3 : Obj} {nst nc nk c8 : Nat} {X : List Row3} {RR : Led} {mb : Vars}
    (F : Fr h₀ L h (fun z => if z = Str.ofString "rows" then some (.ref D8) else mb z))
    (hmb : ∀ z, z ≠ Str.ofString "rows" → z ≠ Str.ofString "first" → z ≠ Str.ofString "found" → mb z = m₀ z)
    (N : News h₀ L h ((dx, kfd H T c (.str (Str.ofString "input") tm) (.str (Str.ofString "dynamic") tac) kl st ns wh at3 nw rl (.bytes #[] tf)) :: (L + 1 + 1, o2) :: (L + 1 + 1 + 1, o3) :: RR))
    (hL1 : (L + 1, o1) ∈ RR) (ho1 : o1.data = .cell (some (.ref o))) (ho2 : ∃ v, o2.data = .cell v) (ho3 : ∃ v, o3.data = .cell v)
    (hst : (st, listOf ys.toArray nst) ∈ RR) (hc : (c, listOf vc.toArray nc) ∈ RR) (ho : (o, instObj 199 dx) ∈ RR) (hkl : (kl, listOf vk.toArray nk) ∈ RR) (hk : All2 (KeyIn RR) vk [(0, 2, false), (2, 1, true), (3, 1, d)]) (hS : All2 (StIn 3 RR) ys (SS cs.length))
    (hvc : All2 IsB vc cs) (hlen : cs.length < 63) (hok : WOk ac top cs) (hi : i < 3) (hD8 : (D8, listOf rv.toArray c8) ∈ RR) (hX : All2 (XRow RR) rv X) (hXl : X.length < 63)
    (hgo : X = [] ∨ ∃ pos t1 t2 t4 na, (at3, tupOf #[.bytes pos.1 t1, .int pos.2 t2] na) ∈ RR ∧ LeftOk (lawKey d i) pos (cs.zip (SS cs.length)) X ∧ nw = .bool false ∧ wh = .int (i : Int) t4)
    (hsub : ∀ p ∈ ro, p ∈ RR) (n2 : dx ≠ L + 1 + 1) (n3 : dx ≠ L + 1 + 1 + 1) (y1 : ∀ p ∈ RR, p.1 ≠ dx) (y2 : ∀ p ∈ RR, p.1 ≠ L + 1 + 1) (y3 : ∀ p ∈ RR, p.1 ≠ L + 1 + 1 + 1) : TnD h₀ L o dx st c kl H T tm tac tf ns d i ro m₀ s { s with heap := h, toks := tk }
theorem first_all {k : Int × Int × Bool} {cs : List By} {p : List Nat} {i : Nat} (hp : p.Perm (List.range cs.length)) (hs : (p.map (kkey k cs (SS cs.length))).Pairwise (fun a b => rowLt a b = true)) (hi : i < cs.length)
    (hmin : ∀ j, j < cs.length → sat (Str.ofString ">=") #[] (kkey k cs (SS cs.length) j).1 = true → j = i ∨ rowLt (kkey k cs (SS cs.length) i) (kkey k cs (SS cs.length) j) = true) : p[0]? = some i := by
  obtain ⟨r, e⟩ := filt_head (pz := fun _ => true) hs (hp.mem_iff.mpr (List.mem_range.mpr hi)) rfl (fun j hj _ => hmin j (lt_of_pick hp j hj) sat_all)
  rw [List.filter_eq_self.mpr (fun _ _ => rfl)] at e
  rw [e]; rfl
/-- what the readings of a turn keep -/
def RdJ (dx c kl st : Addr) (H : Nat → Int) (T : Nat → Tok) (tm tac tf : Tok) (ns : Value) (d : Bool) (i : Nat) (cs : List By) (X : List Row3) (base : Led) (j : Nat) (ys : List Value) (nw : Led) : Prop :=
  All2 IsB ys ((X.take j).map fun x => x.2.2) ∧ ∃ at3 nwv rl wh ex, nw = (dx, kfd H T c (.str (Str.ofString "input") tm) (.str (Str.ofString "dynamic") tac) kl st ns wh at3 nwv rl (.bytes #[] tf)) :: (ex ++ base) ∧ (∀ p ∈ ex, p.1 ≠ dx) ∧
    (j < X.length → ∃ pos t1 t2 t4 na, (at3, tupOf #[.bytes pos.1 t1, .int pos.2 t2] na) ∈ ex ++ base ∧ LeftOk (lawKey d i) pos (cs.zip (SS cs.length)) (X.drop j) ∧ nwv = .bool false ∧ wh = .int (i : Int) t4)

/-- a mark over a goal that is left -/
structure Box (P : Prop) : Prop where
  out : P
noncomputable def law_s1 : {P : Prop // Box P → PySem.Challenge.rw_pc0127_02.Holds} := ⟨_, fun hP0 => by
  refine hd ?_
  w_strict k_go0
  (all_goals try k_fold)
  k_steps
  refine Stop.go ?_
  rename IntsAre _ _ => hInts
  rename Heap.IsList _ _ _ => hList
  refine' SpH.use (bag_c hInts ?ll ?lay) hList (by k_asm) (by k_asm) (by k_asm) (by k_asm) (by k_asm) (by first | exact rfl | assumption) (by ktr_room) (by ktr_units) ?_
  (case ll => omega)
  (case lay => assumption)
  rintro r1 nw1 h1 tk1 F1 N1 ⟨bag, bN, bt, bn, rfl, rfl, hbag⟩
  try k_sweep
  k_steps
  · rename_i z0law_s1 z1law_s1 z2law_s1 z3law_s1 z4law_s1 z5law_s1 z6law_s1 z7law_s1 z8law_s1 z9law_s1 z10law_s1 z11law_s1 z12law_s1 z13law_s1 z14law_s1 z15law_s1 z16law_s1 z17law_s1 z18law_s1 z19law_s1 z20law_s1 z21law_s1 z22law_s1 z23law_s1 z24law_s1 z25law_s1 z26law_s1 z27law_s1 z28law_s1 z29law_s1 z30law_s1 z31law_s1 z32law_s1 z33law_s1 z34law_s1 z35law_s1 z36law_s1 z37law_s1 z39law_s1 z40law_s1 z41law_s1 z43law_s1 z44law_s1 z45law_s1 z46law_s1 z47law_s1 z48law_s1 z49law_s1 z50law_s1 z51law_s1 z52law_s1 z53law_s1 z54law_s1 z55law_s1 z56law_s1 z57law_s1 z58law_s1 z66law_s1 z68law_s1 z69law_s1 z70law_s1 z71law_s1 z72law_s1
    revert z0law_s1 z1law_s1 z2law_s1 z3law_s1 z4law_s1 z5law_s1 z6law_s1 z7law_s1 z8law_s1 z9law_s1 z10law_s1 z11law_s1 z12law_s1 z13law_s1 z14law_s1 z15law_s1 z16law_s1 z17law_s1 z18law_s1 z19law_s1 z20law_s1 z21law_s1 z22law_s1 z23law_s1 z24law_s1 z25law_s1 z26law_s1 z27law_s1 z28law_s1 z29law_s1 z30law_s1 z31law_s1 z32law_s1 z33law_s1 z34law_s1 z35law_s1 z36law_s1 z37law_s1 hList z39law_s1 z40law_s1 z41law_s1 hInts z43law_s1 z44law_s1 z45law_s1 z46law_s1 z47law_s1 z48law_s1 z49law_s1 z50law_s1 z51law_s1 z52law_s1 z53law_s1 z54law_s1 z55law_s1 z56law_s1 z57law_s1 z58law_s1 h1 tk1 bag bN bt bn hbag z66law_s1 tk z68law_s1 z69law_s1 z70law_s1 z71law_s1 z72law_s1 hw9 tkw9 Fw9 j9w t9w N9w u9w jh9w Nw9 qk ek
    exact hP0.out⟩
noncomputable def law_s2 : {P : Prop // Box P → law_s1.1} := ⟨_, fun hP0 => by
  w_top off
  unfold law_s1
  intro z0law_s1 z1law_s1 z2law_s1 z3law_s1 z4law_s1 z5law_s1 z6law_s1 z7law_s1 z8law_s1 z9law_s1 z10law_s1 z11law_s1 z12law_s1 z13law_s1 z14law_s1 z15law_s1 z16law_s1 z17law_s1 z18law_s1 z19law_s1 z20law_s1 z21law_s1 z22law_s1 z23law_s1 z24law_s1 z25law_s1 z26law_s1 z27law_s1 z28law_s1 z29law_s1 z30law_s1 z31law_s1 z32law_s1 z33law_s1 z34law_s1 z35law_s1 z36law_s1 z37law_s1 hList z39law_s1 z40law_s1 z41law_s1 hInts z43law_s1 z44law_s1 z45law_s1 z46law_s1 z47law_s1 z48law_s1 z49law_s1 z50law_s1 z51law_s1 z52law_s1 z53law_s1 z54law_s1 z55law_s1 z56law_s1 z57law_s1 z58law_s1 h1 tk1 bag bN bt bn hbag z66law_s1 tk z68law_s1 z69law_s1 z70law_s1 z71law_s1 z72law_s1 hw9 tkw9 Fw9 j9w t9w N9w u9w jh9w Nw9 qk ek
  refine Stop.go ?_
  refine' item_three (by k_asm) ?im1 (by first | assumption | omega) ?_
  (case im1 => k_mem)
  intro ac tac hac
  k_steps
  refine Stop.go ?_
  rename News _ _ _ _ => N1
  have N2 := news_front N1 6 rfl
  simp only [List.eraseIdx] at N2
  refine' Sp.use (init_c (vc := [Value.bytes _ _]) ?i1 (All2.one ⟨_, rfl⟩) (by decide) ?i2 ?i3 ?i4 ?i5 (.inl ⟨rfl, List.cons_ne_nil _ _⟩)) (by k_asm) (by k_asm) (by k_asm) N2 (by k_asm) (by first | exact rfl | assumption) (by ktr_room) (by ktr_units) ?_
  (case i1 => k_all)
  (case i2 => walk_at "my mem")
  (case i3 => walk_at "my mem")
  (case i4 => walk_at "my mem")
  (case i5 => walk_at "my mem")
  rintro r4 nw4 h4 tk4 F4 N4 ⟨o, dx, kl, st, at_, H, T, mk, vk, vc', cs', ys, nk, nst, nc', na, ta, tb, tc, td, te, tf, tg, rfl, rfl, hcs', hmd', ho, hkl, hk, hat, hS, hsd, hm1, hm2, hcd, hct, hr1, hr2, hmc, hfr, htg⟩
  try k_sweep
  obtain rfl : cs' = [] := hmd'.elim (fun q => q.2) (fun q => absurd q.1 (by decide))
  obtain rfl : vc' = [] := List.eq_nil_of_length_eq_zero hcs'.len
  obtain rfl : ys = [] := List.eq_nil_of_length_eq_zero (by simpa using hS.len)
  clear hmd' hcs' hS htg
  have N5 := news_sw (pre := [_, _, _]) N4
  clear N4
  simp only [List.cons_append, List.nil_append] at N5
  k_steps
  refine Stop.go ?_
  rename Fr _ _ _ _ => F9
  rename News _ _ _ _ => N9
  have N10 := news_front (news_front (news_front (news_front (news_front (news_front (news_front (news_front N9 14 rfl) 15 rfl) 16 rfl) 5 rfl) 16 rfl) 7 rfl) 8 rfl) 9 rfl
  simp only [List.eraseIdx] at N10
  refine cutw (MidA z2law_s1.heap z2law_s1.heap.objs.size z2law_s1) ?_ ?_
  · have Fa := fr_put (fr_put (fr_put (fr_put (fr_put (fr_put (fr_put (fr_put F9 (x := Str.ofString "bag") rfl) (x := Str.ofString "content") rfl) (x := Str.ofString "is_double") rfl) (x := Str.ofString "access") rfl) (x := Str.ofString "keys") rfl) (x := Str.ofString "top") rfl) (x := Str.ofString "taken") rfl) (x := Str.ofString "made") rfl
    refine' MidA.mk (vk := vk) (nk := nk) (o := o) Fa N10 ⟨_, by assumption⟩ ⟨_, by assumption⟩ ⟨_, by assumption⟩ ⟨⟨_, ?k1⟩, ⟨_, _, _, ?k2⟩, ⟨_, ?k3⟩, ⟨_, _, _, ?k4⟩, ⟨_, _, _, ?k5⟩⟩ ?m1 ?m2 ?m3 hac ?e1 ?e2 ?e3 ?e4 ?e5 ?e6 ?e7 ?e8 ?e9 ?e10 ?e11 ?e12 ?e13 ?e14 ?e15 ?e16 ?e17 ?e18 ?e19 ?e20 ?e21 ?e22 ?e23 ?e24 ?e25 ?b1 ?b2 ?b3 ?b4 ?b5 ?b6 ?b7 ?b8
    (case k1 | k2 | k3 | k4 | k5 => walk_at "my mem")
    (case m1 | m2 => walk_at "my mem")
    (case m3 => (refine keys_sub hk ?_; walk_at "my subs"))
    (case e1 => exact hct)
    (case e2 => exact hcd)
    (case e5 => exact hsd)
    (case e3 | e4 | e7 | e9 | e10 | e11 | e12 | e13 | e23 | e24 | e25 => k_ne)
    (case e6 | e14 | e15 | e16 => exact Ne.symm (hr2 (_, _) (by walk_at "my mem")))
    (case e8 | e17 | e18 | e19 => exact Ne.symm (hr1 (_, _) (by walk_at "my mem")))
    (case e20 | e21 | e22 => exact Ne.symm (hbag (_, _) (by walk_at "my mem")))
    (case b1 => (refine List.forall_mem_cons.mpr ⟨?_, List.forall_mem_cons.mpr ⟨?_, List.forall_mem_cons.mpr ⟨?_, List.forall_mem_cons.mpr ⟨?_, List.forall_mem_cons.mpr ⟨?_, List.forall_mem_cons.mpr ⟨?_, List.forall_mem_cons.mpr ⟨?_, List.forall_mem_cons.mpr ⟨?_, List.forall_mem_cons.mpr ⟨?_, ?_⟩⟩⟩⟩⟩⟩⟩⟩⟩; (focus (dsimp only; k_ne)); (focus (dsimp only; k_ne)); (focus (dsimp only; k_ne)); (focus (dsimp only; k_ne)); (focus (dsimp only; k_ne)); (focus (dsimp only; k_ne)); (focus (dsimp only; k_ne)); (focus (dsimp only; k_ne)); (focus (dsimp only; k_ne)); exact hmc))
    (case b2 => (refine List.forall_mem_cons.mpr ⟨?_, List.forall_mem_cons.mpr ⟨?_, List.forall_mem_cons.mpr ⟨?_, List.forall_mem_cons.mpr ⟨?_, List.forall_mem_cons.mpr ⟨?_, List.forall_mem_cons.mpr ⟨?_, List.forall_mem_cons.mpr ⟨?_, List.forall_mem_cons.mpr ⟨?_, List.forall_mem_cons.mpr ⟨?_, ?_⟩⟩⟩⟩⟩⟩⟩⟩⟩; (focus (dsimp only; k_ne)); (focus (dsimp only; k_ne)); (focus exact hr2 (_, _) (by walk_at "my mem")); (focus exact hr2 (_, _) (by walk_at "my mem")); (focus exact hr2 (_, _) (by walk_at "my mem")); (focus exact hr2 (_, _) (by walk_at "my mem")); (focus exact hr2 (_, _) (by walk_at "my mem")); (focus exact hr2 (_, _) (by walk_at "my mem")); (focus exact hr2 (_, _) (by walk_at "my mem")); exact hm2))
    (case b3 => (refine List.forall_mem_cons.mpr ⟨?_, List.forall_mem_cons.mpr ⟨?_, List.forall_mem_cons.mpr ⟨?_, List.forall_mem_cons.mpr ⟨?_, List.forall_mem_cons.mpr ⟨?_, List.forall_mem_cons.mpr ⟨?_, List.forall_mem_cons.mpr ⟨?_, List.forall_mem_cons.mpr ⟨?_, List.forall_mem_cons.mpr ⟨?_, ?_⟩⟩⟩⟩⟩⟩⟩⟩⟩; (focus (dsimp only; k_ne)); (focus (dsimp only; k_ne)); (focus exact hr1 (_, _) (by walk_at "my mem")); (focus exact hr1 (_, _) (by walk_at "my mem")); (focus exact hr1 (_, _) (by walk_at "my mem")); (focus exact hr1 (_, _) (by walk_at "my mem")); (focus exact hr1 (_, _) (by walk_at "my mem")); (focus exact hr1 (_, _) (by walk_at "my mem")); (focus exact hr1 (_, _) (by walk_at "my mem")); exact hm1))
    (case b4 | b6 | b7 | b8 => (refine List.forall_mem_cons.mpr ⟨?_, List.forall_mem_cons.mpr ⟨?_, List.forall_mem_cons.mpr ⟨?_, List.forall_mem_cons.mpr ⟨?_, List.forall_mem_cons.mpr ⟨?_, List.forall_mem_cons.mpr ⟨?_, List.forall_mem_cons.mpr ⟨?_, List.forall_mem_cons.mpr ⟨?_, List.forall_mem_cons.mpr ⟨?_, ?_⟩⟩⟩⟩⟩⟩⟩⟩⟩; (focus (dsimp only; k_ne)); (focus (dsimp only; k_ne)); (focus (dsimp only; k_ne)); (focus (dsimp only; k_ne)); (focus (dsimp only; k_ne)); (focus (dsimp only; k_ne)); (focus (dsimp only; k_ne)); (focus (dsimp only; k_ne)); (focus (dsimp only; k_ne)); exact fun q hq => Ne.symm (hfr q hq (_, _) (by walk_at "my mem"))))
    (case b5 => (refine List.forall_mem_cons.mpr ⟨?_, List.forall_mem_cons.mpr ⟨?_, List.forall_mem_cons.mpr ⟨?_, List.forall_mem_cons.mpr ⟨?_, List.forall_mem_cons.mpr ⟨?_, List.forall_mem_cons.mpr ⟨?_, List.forall_mem_cons.mpr ⟨?_, List.forall_mem_cons.mpr ⟨?_, List.forall_mem_cons.mpr ⟨?_, ?_⟩⟩⟩⟩⟩⟩⟩⟩⟩; (focus (dsimp only; k_ne)); (focus (dsimp only; k_ne)); (focus (dsimp only; k_ne)); (focus (dsimp only; k_ne)); (focus (dsimp only; k_ne)); (focus (dsimp only; k_ne)); (focus (dsimp only; k_ne)); (focus (dsimp only; k_ne)); (focus (dsimp only; k_ne)); kst_allNe))
  · rename_i z67law_s2 z73law_s2 z74law_s2 z75law_s2 z76law_s2 z77law_s2 z78law_s2 z79law_s2 z80law_s2 z81law_s2 z94law_s2 z95law_s2 z96law_s2 z97law_s2 z98law_s2 z99law_s2 z100law_s2 z101law_s2 z102law_s2 z103law_s2 z104law_s2 z105law_s2 z106law_s2 z107law_s2 z108law_s2 z109law_s2 z110law_s2 z111law_s2 z112law_s2 z113law_s2 z114law_s2 z115law_s2 z116law_s2 z117law_s2 z118law_s2 z119law_s2 z120law_s2 z121law_s2 z157law_s2 z158law_s2 z159law_s2 z160law_s2 z161law_s2 z162law_s2 z163law_s2 z164law_s2 z165law_s2 z166law_s2 z167law_s2 z168law_s2 z169law_s2 z172law_s2
    clear hList hInts h1 tk1 hbag z73law_s2 z74law_s2 z75law_s2 z76law_s2 z77law_s2 z78law_s2 z79law_s2 z80law_s2 z81law_s2 ac tac hac hw9 tkw9 j9w t9w N9w u9w jh9w qk ek z94law_s2 z95law_s2 z96law_s2 z97law_s2 z98law_s2 z99law_s2 z100law_s2 z101law_s2 z102law_s2 z103law_s2 z104law_s2 z105law_s2 z106law_s2 z107law_s2 z108law_s2 z109law_s2 z110law_s2 z111law_s2 z112law_s2 z113law_s2 z114law_s2 z115law_s2 z116law_s2 z117law_s2 z118law_s2 z119law_s2 z120law_s2 z121law_s2 h4 tk4 o dx kl st at_ H T mk vk nk nst nc' na ta tb tc td te tf tg ho hkl hk hat hsd hm1 hm2 hcd hct hr1 hr2 hmc hfr z157law_s2 z158law_s2 z159law_s2 z160law_s2 z161law_s2 z162law_s2 z163law_s2 z164law_s2 z165law_s2 z166law_s2 z167law_s2 z168law_s2 z169law_s2 F9 N9 z172law_s2 tk N10
    revert z0law_s1 z1law_s1 z2law_s1 z3law_s1 z4law_s1 z5law_s1 z6law_s1 z7law_s1 z8law_s1 z9law_s1 z10law_s1 z11law_s1 z12law_s1 z13law_s1 z14law_s1 z15law_s1 z16law_s1 z17law_s1 z18law_s1 z19law_s1 z20law_s1 z21law_s1 z22law_s1 z23law_s1 z24law_s1 z25law_s1 z26law_s1 z27law_s1 z28law_s1 z29law_s1 z30law_s1 z31law_s1 z32law_s1 z33law_s1 z34law_s1 z35law_s1 z36law_s1 z37law_s1 z39law_s1 z40law_s1 z41law_s1 z43law_s1 z44law_s1 z45law_s1 z46law_s1 z47law_s1 z48law_s1 z49law_s1 z50law_s1 z51law_s1 z52law_s1 z53law_s1 z54law_s1 z55law_s1 z56law_s1 z57law_s1 z58law_s1 bag bN bt bn z66law_s1 z67law_s2 z68law_s1 z69law_s1 z70law_s1 z71law_s1 z72law_s1
    exact hP0.out⟩
noncomputable def law_s3 : {P : Prop // Box P → law_s2.1} := ⟨_, fun hP0 => by
  w_top off
  unfold law_s2
  intro z0law_s1 z1law_s1 z2law_s1 z3law_s1 z4law_s1 z5law_s1 z6law_s1 z7law_s1 z8law_s1 z9law_s1 z10law_s1 z11law_s1 z12law_s1 z13law_s1 z14law_s1 z15law_s1 z16law_s1 z17law_s1 z18law_s1 z19law_s1 z20law_s1 z21law_s1 z22law_s1 z23law_s1 z24law_s1 z25law_s1 z26law_s1 z27law_s1 z28law_s1 z29law_s1 z30law_s1 z31law_s1 z32law_s1 z33law_s1 z34law_s1 z35law_s1 z36law_s1 z37law_s1 z39law_s1 z40law_s1 z41law_s1 z43law_s1 z44law_s1 z45law_s1 z46law_s1 z47law_s1 z48law_s1 z49law_s1 z50law_s1 z51law_s1 z52law_s1 z53law_s1 z54law_s1 z55law_s1 z56law_s1 z57law_s1 z58law_s1 bag bN bt bn z66law_s1 z67law_s2 z68law_s1 z69law_s1 z70law_s1 z71law_s1 z72law_s1
  rintro s' @⟨h, tk, dx, st, c, bag, tl, kk, kt, al, ka, kb, o, kl, at_, mb, H, T, ac, d, vk, o1, o2, o3, top, bN, t1, t2, tm, tac, td, te, tf, tn, bt, nc, nst, nt, bn, nk, R, F0, N0, ⟨v1, ho1⟩, ⟨v2, ho2⟩, ⟨v3, ho3⟩, hK, ho, hkl, hk, hac, n1, n2, n3, n4, n5, n6, n7, n8, n9, n10, n11, n12, n13, n14, n15, n16, n17, n18, n19, n20, n21, n22, n23, n24, n25, a1, a2, a3, a4, a5, a6, a7, a8⟩
  have m1 := Ne.symm n1
  have m2 := Ne.symm n2
  have m3 := Ne.symm n3
  have m4 := Ne.symm n4
  have m5 := Ne.symm n5
  have m6 := Ne.symm n6
  have m7 := Ne.symm n7
  have m8 := Ne.symm n8
  have m9 := Ne.symm n9
  have m10 := Ne.symm n10
  have m20 := Ne.symm n20
  have m21 := Ne.symm n21
  have m22 := Ne.symm n22
  refine stop_ ?_
  walk_at "my for"
  refine' range_mut4 (mu₀ := [(c, _), (st, _), (dx, _), (bag, _), (tl, _)]) (Str.ofString "top") (Str.ofString "record") (Str.ofString "due") (Str.ofString "due") (fun i p1 mu => WJ c st dx bag tl kl at_ H T ac tm tac (.int 0 td) (.bool false) i p1 mu) (by exact rfl) (by assumption) (by omega) (by assumption) ?rN ?rA ?rJ ?_ ?_
  (case rN => assumption)
  (case rJ => exact MidA.wj0)
  (case rA => exact Apart.cons (List.forall_mem_cons.mpr ⟨Ne.symm n11, List.forall_mem_cons.mpr ⟨Ne.symm n12, List.forall_mem_cons.mpr ⟨Ne.symm n13, a1⟩⟩⟩) (Apart.cons (List.forall_mem_cons.mpr ⟨Ne.symm n14, List.forall_mem_cons.mpr ⟨Ne.symm n15, List.forall_mem_cons.mpr ⟨Ne.symm n16, a2⟩⟩⟩) (Apart.cons (List.forall_mem_cons.mpr ⟨Ne.symm n17, List.forall_mem_cons.mpr ⟨Ne.symm n18, List.forall_mem_cons.mpr ⟨Ne.symm n19, a3⟩⟩⟩) (Apart.cons (List.forall_mem_cons.mpr ⟨Ne.symm n20, List.forall_mem_cons.mpr ⟨Ne.symm n21, List.forall_mem_cons.mpr ⟨Ne.symm n22, a4⟩⟩⟩) (Apart.cons (List.forall_mem_cons.mpr ⟨Ne.symm n23, List.forall_mem_cons.mpr ⟨Ne.symm n24, List.forall_mem_cons.mpr ⟨Ne.symm n25, a5⟩⟩⟩) (Apart.nil))))))
  · rintro i t9 p1 p2 p3 p4 mu ro h3 tk3 hi hJ hsub hap F3 N3
    obtain @⟨top, bN, n, t8, bt, tn, te, tf, vc, vt, vst, cs, hi9, nc, nst, bn, nt, hvc, hvt, hvs, hlen, hok⟩ := hJ
    simp only [List.cons_append, List.nil_append] at N3
    obtain ⟨x1, hap⟩ := hap.head
    obtain ⟨x2, hap⟩ := hap.head
    obtain ⟨x3, hap⟩ := hap.head
    obtain ⟨x4, hap⟩ := hap.head
    obtain ⟨x5, hap⟩ := hap.head
    dsimp only at x1 x2 x3 x4 x5
    have hsR : ∀ p ∈ R, p ∈ ro := fun p hp => hsub p (by walk_at "my in")
    have hlen9 : cs.length < 63 := by omega
    have hsz9 : ∀ b ∈ cs, b.size < 10000 := fun b hb => by rw [hok.size b hb]; decide
    have hvt9 : vt.length < 10000 := by have := hvt.len; omega
    clear hsub hap
    k_steps
    refine Stop.go ?_
    refine' item_at (vs := [_, _, _, _]) (by k_asm) ?im2 (by simp only [List.length]; omega) (by simp only [List.length]; decide) ?_
    (case im2 => k_mem)
    intro v9 hv9
    obtain ⟨z9, tz9, rfl⟩ := int_of_four hv9
    have q1 := Int.fmod_nonneg_of_pos ((top + z9).fdiv 4) (show (0 : Int) < 20 by decide)
    have q2 := Int.fmod_lt_of_pos ((top + z9).fdiv 4) (show (0 : Int) < 20 by decide)
    have q3 := Int.fmod_nonneg_of_pos (top + z9) (show (0 : Int) < 4 by decide)
    have q4 := Int.fmod_lt_of_pos (top + z9) (show (0 : Int) < 4 by decide)
    k_steps
    refine Stop.go ?_
    refine' Sp.use (status_c (hl := tl) (vc := vt) ?ja hvt (by omega) hsz9 ?jb) (by k_asm) (by k_asm) (by k_asm) (by k_asm) (by k_asm) (by first | exact rfl | assumption) (by ktr_room) (by ktr_units) ?_
    (case ja => k_mem)
    (case jb => exact (by decide : 4 < 10000))
    rintro r5 nw5 h5 tk5 F5 N5 ⟨td9, rfl, rfl⟩
    try k_sweep
    k_steps
    refine Stop.go ?_
    refine' Sp.use (Sp.sub (write_l (c := c) (st := st) (dx := dx) (H := H) (T := T) (nc := nc) (nst := nst) (vc := vc) (vst := vst) (kl := kl) (at_ := at_) (n := n) (tn := tn) (wh := .int 0 td) (nw := .bool false) (rl := .int (-1) te) (hi := hi9) (thi := tf) (tm := tm) (tac := tac) (ac := ac) (cs := cs) (d := d) (rest := (bag, _) :: (tl, listOf vt.toArray nt) :: ro) (List.mem_cons_of_mem _ (List.mem_cons_of_mem _ (hsR _ ho))) n1 m2 m5 (List.forall_mem_cons.mpr ⟨m8, List.forall_mem_cons.mpr ⟨m9, x3⟩⟩) (List.forall_mem_cons.mpr ⟨m3, List.forall_mem_cons.mpr ⟨m4, x1⟩⟩) (List.forall_mem_cons.mpr ⟨m6, List.forall_mem_cons.mpr ⟨m7, x2⟩⟩) (List.mem_cons_of_mem _ (List.mem_cons_of_mem _ (hsR _ hkl))) (keys_sub hk (fun p hp => List.mem_cons_of_mem _ (List.mem_cons_of_mem _ (hsR p hp)))) hvc hvs hlen9 hok ?jc) ?jd) (by k_asm) (by k_asm) (by k_asm) (by k_asm) (by k_asm) (by first | exact rfl | assumption) (by ktr_room) (by ktr_units) ?_
    (case jc => rfl)
    (case jd => walk_at "my subs")
    rintro r6 nw6 h6 tk6 F6 N6 (⟨D6, us6, u1, u2, u3, w1, w2, w3, w4, rfl, hst9, rfl, hul, hus, e1, e2, e3, e4⟩ | ⟨w1, w3, rfl, hst9, rfl⟩)
    · try k_sweep
      have e5 : D6 ≠ tl := Ne.symm (e4 _ (List.mem_cons_of_mem _ List.mem_cons_self))
      rcases hst9 with hst9 | hst9
      · rw [hst9] at F6 ⊢
        k_steps
        rename News _ _ _ _ => N7
        try simp only [List.push_toArray] at N7
        refine' MEnd4.next (mu := [(c, listOf (vc ++ [_]).toArray _), (st, listOf (vst ++ [_]).toArray _), (dx, _), (bag, listOf #[.int _ _] bn), (tl, listOf (vt ++ [_]).toArray _)]) (by assumption) ?mNA (Apart.cons x1 (Apart.cons x2 (Apart.cons x3 (Apart.cons x4 (Apart.cons x5 Apart.nil))))) ?wjA ?hmA
        (case hmA => exact fun z h1 h2 h3 h4 _ => by simp [h1, h2, h3, h4])
        (case mNA => exact newsSub N7 (by simp only [List.cons_append, List.nil_append]; walk_at "my subs"))
        (case wjA => exact WJ.mk (cs := cs ++ [_]) (vst := vst ++ [Value.ref D6]) (hvc.append (All2.one ⟨_, rfl⟩)) (hvt.append (All2.one ⟨_, rfl⟩)) (by simp [hvs]) (by rw [List.length_append]; exact Nat.succ_le_succ hlen) (hok.addl rfl (by first | exact .inl hst9 | exact .inr hst9)))
      · rw [hst9] at F6 ⊢
        k_steps
        rename News _ _ _ _ => N7
        try simp only [List.push_toArray] at N7
        refine' MEnd4.next (mu := [(c, listOf (vc ++ [_]).toArray _), (st, listOf (vst ++ [_]).toArray _), (dx, _), (bag, listOf #[.int _ _] bn), (tl, listOf (vt ++ [_]).toArray _)]) (by assumption) ?mNB (Apart.cons x1 (Apart.cons x2 (Apart.cons x3 (Apart.cons x4 (Apart.cons x5 Apart.nil))))) ?wjB ?hmB
        (case hmB => exact fun z h1 h2 h3 h4 _ => by simp [h1, h2, h3, h4])
        (case mNB => exact newsSub N7 (by simp only [List.cons_append, List.nil_append]; walk_at "my subs"))
        (case wjB => exact WJ.mk (cs := cs ++ [_]) (vst := vst ++ [Value.ref D6]) (hvc.append (All2.one ⟨_, rfl⟩)) (hvt.append (All2.one ⟨_, rfl⟩)) (by simp [hvs]) (by rw [List.length_append]; exact Nat.succ_le_succ hlen) (hok.addl rfl (by first | exact .inl hst9 | exact .inr hst9)))
    · try k_sweep
      rcases hst9 with hst9 | hst9
      · rw [hst9] at F6 ⊢
        k_steps
        refine' MEnd4.next (mu := [(c, listOf vc.toArray _), (st, listOf vst.toArray _), (dx, _), (bag, listOf #[.int _ _] bn), (tl, listOf vt.toArray _)]) (by assumption) ?mNC (Apart.cons x1 (Apart.cons x2 (Apart.cons x3 (Apart.cons x4 (Apart.cons x5 Apart.nil))))) ?wjC ?hmC
        (case hmC => exact fun z h1 h2 h3 h4 _ => by simp [h1, h2, h3, h4])
        (case mNC => exact newsSub (by k_asm) (by simp only [List.cons_append, List.nil_append]; walk_at "my subs"))
        (case wjC => exact WJ.mk hvc hvt hvs (Nat.le_succ_of_le hlen) hok)
      · rw [hst9] at F6 ⊢
        k_steps
        refine' MEnd4.next (mu := [(c, listOf vc.toArray _), (st, listOf vst.toArray _), (dx, _), (bag, listOf #[.int _ _] bn), (tl, listOf vt.toArray _)]) (by assumption) ?mND (Apart.cons x1 (Apart.cons x2 (Apart.cons x3 (Apart.cons x4 (Apart.cons x5 Apart.nil))))) ?wjD ?hmD
        (case hmD => exact fun z h1 h2 h3 h4 _ => by simp [h1, h2, h3, h4])
        (case mND => exact newsSub (by k_asm) (by simp only [List.cons_append, List.nil_append]; walk_at "my subs"))
        (case wjD => exact WJ.mk hvc hvt hvs (Nat.le_succ_of_le hlen) hok)
  rintro px p1 p2 p3 p4 mu h3 tk3 hJ hap F3 N3
  obtain @⟨top, bN, n, t8, bt, tn, te, tf, vc, vt, vst, cs, hi9, nc, nst, bn, nt, hvc, hvt, hvs, hlen, hok⟩ := hJ
  simp only [List.cons_append, List.nil_append] at N3
  have N10 := news_front (news_front (news_front (news_front N3 7 rfl) 7 rfl) 7 rfl) 3 rfl
  simp only [List.eraseIdx] at N10
  have Fa := fr_put (fr_put (fr_put F3 (x := Str.ofString "content") rfl) (x := Str.ofString "keys") rfl) (x := Str.ofString "taken") rfl
  dsimp only
  refine cutw (MidW z2law_s1.heap z2law_s1.heap.objs.size z2law_s1) ?_ ?_
  · have hl9 : cs.length < 63 := by omega
    refine' MidW.mk Fa N10 ⟨_, ho1⟩ ⟨_, ho2⟩ ⟨_, ho3⟩ (hK.mono ?k1) ?k2 hvc hvt hl9 hok n11 n12 n13 n4 (List.forall_mem_cons.mpr ⟨m1, List.forall_mem_cons.mpr ⟨m2, List.forall_mem_cons.mpr ⟨m3, List.forall_mem_cons.mpr ⟨m4, a1⟩⟩⟩⟩) (List.forall_mem_cons.mpr ⟨n14, List.forall_mem_cons.mpr ⟨n17, List.forall_mem_cons.mpr ⟨n20, List.forall_mem_cons.mpr ⟨n23, a6⟩⟩⟩⟩) (List.forall_mem_cons.mpr ⟨n15, List.forall_mem_cons.mpr ⟨n18, List.forall_mem_cons.mpr ⟨n21, List.forall_mem_cons.mpr ⟨n24, a7⟩⟩⟩⟩) (List.forall_mem_cons.mpr ⟨n16, List.forall_mem_cons.mpr ⟨n19, List.forall_mem_cons.mpr ⟨n22, List.forall_mem_cons.mpr ⟨n25, a8⟩⟩⟩⟩)
    (case k1 => walk_at "my sub")
    (case k2 => walk_at "my mem")
  · rename_i z57law_s3 z58law_s3 z59law_s3 z60law_s3 z92law_s3 z93law_s3 z99law_s3 z100law_s3 z101law_s3 z102law_s3 z103law_s3 z104law_s3 z105law_s3 z106law_s3 z168law_s3 z169law_s3 z172law_s3 z178law_s3 z181law_s3 z182law_s3 z183law_s3 z184law_s3 z185law_s3 z186law_s3 z187law_s3 z188law_s3 z189law_s3
    clear h tk dx st c bag tl kk kt al ka kb o kl at_ mb H T ac d vk o1 o2 o3 z92law_s3 z93law_s3 t1 t2 tm tac td z99law_s3 z100law_s3 z101law_s3 z102law_s3 z103law_s3 z104law_s3 z105law_s3 z106law_s3 nk R Fw9 N0 hK ho hkl hk hac n1 n2 n3 n4 n5 n6 n7 n8 n9 n10 n11 n12 n13 n14 n15 n16 n17 n18 n19 n20 n21 n22 n23 n24 n25 a1 a2 a3 a4 a5 a6 a7 a8 v1 ho1 v2 ho2 v3 ho3 m1 m2 m3 m4 m5 m6 m7 m8 m9 m10 m20 m21 m22 z168law_s3 z169law_s3 hw9 tkw9 z172law_s3 j9w t9w N9w u9w jh9w z178law_s3 qk ek z181law_s3 z182law_s3 z183law_s3 z184law_s3 z185law_s3 z186law_s3 z187law_s3 z188law_s3 z189law_s3 px p2 p3 p4 h3 tk3 top bN n t8 bt tn te tf vc vt vst cs hi9 nc nst bn nt hvc hvt hvs hlen hok F3 hap N3 N10 Fa
    revert z0law_s1 z1law_s1 z2law_s1 z3law_s1 z4law_s1 z5law_s1 z6law_s1 z7law_s1 z8law_s1 z9law_s1 z10law_s1 z11law_s1 z12law_s1 z13law_s1 z14law_s1 z15law_s1 z16law_s1 z17law_s1 z18law_s1 z19law_s1 z20law_s1 z21law_s1 z22law_s1 z23law_s1 z24law_s1 z25law_s1 z26law_s1 z27law_s1 z28law_s1 z29law_s1 z30law_s1 z31law_s1 z32law_s1 z33law_s1 z34law_s1 z35law_s1 z36law_s1 z37law_s1 z39law_s1 z40law_s1 z41law_s1 z43law_s1 z44law_s1 z45law_s1 z46law_s1 z47law_s1 z48law_s1 z49law_s1 z50law_s1 z51law_s1 z52law_s1 z53law_s1 z54law_s1 z55law_s1 z56law_s1 z57law_s1 z58law_s1 z57law_s3 z58law_s3 z59law_s3 z60law_s3 z66law_s1 z67law_s2 z68law_s1 z69law_s1 z70law_s1 z71law_s1 z72law_s1
    exact hP0.out⟩
section
local macro_rules | `(tactic| walk_at "compareOp NotEq ref ref") => `(tactic| refine stop_ ?_)
noncomputable def law_s4 : {P : Prop // Box P → law_s3.1} := ⟨_, fun hP0 => by
  w_top off
  unfold law_s3
  intro z0law_s1 z1law_s1 z2law_s1 z3law_s1 z4law_s1 z5law_s1 z6law_s1 z7law_s1 z8law_s1 z9law_s1 z10law_s1 z11law_s1 z12law_s1 z13law_s1 z14law_s1 z15law_s1 z16law_s1 z17law_s1 z18law_s1 z19law_s1 z20law_s1 z21law_s1 z22law_s1 z23law_s1 z24law_s1 z25law_s1 z26law_s1 z27law_s1 z28law_s1 z29law_s1 z30law_s1 z31law_s1 z32law_s1 z33law_s1 z34law_s1 z35law_s1 z36law_s1 z37law_s1 z39law_s1 z40law_s1 z41law_s1 z43law_s1 z44law_s1 z45law_s1 z46law_s1 z47law_s1 z48law_s1 z49law_s1 z50law_s1 z51law_s1 z52law_s1 z53law_s1 z54law_s1 z55law_s1 z56law_s1 z57law_s1 z58law_s1 z57law_s3 z58law_s3 z59law_s3 z60law_s3 z66law_s1 z67law_s2 z68law_s1 z69law_s1 z70law_s1 z71law_s1 z72law_s1
  rintro s' @⟨h, tk, c, tl, kk, kt, al, ka, kb, mb, ac, d, vc, vt, cs, hi9, o1, o2, o3, nc, nt, R, F0, N0, ⟨v1, ho1⟩, ⟨v2, ho2⟩, ⟨v3, ho3⟩, hK, htl, hvc, hvt, hlen, hok, n1, n2, n3, n4, a1, a2, a3, a4⟩
  obtain ⟨nk1, hkk⟩ := hK.kk
  obtain ⟨tk1, tk2, nk2, hkt⟩ := hK.kt
  obtain ⟨nk3, hal⟩ := hK.al
  obtain ⟨tk3, tk4, nk4, hka⟩ := hK.ka
  obtain ⟨tk5, tk6, nk5, hkb⟩ := hK.kb
  have m1 := Ne.symm n1
  have m2 := Ne.symm n2
  have m3 := Ne.symm n3
  k_steps
  refine Stop.go ?_
  refine' ne_bys (by k_asm) ?q1 ?q2 hvc hvt (by ktr_units) ?_
  (case q1 => k_mem)
  (case q2 => k_mem)
  rw [show (!decide (cs = cs)) = false by simp]
  k_steps
  refine Stop.go ?_
  refine' Sp.use (init_c (c := c) (vc := vc) (cs := cs) (k0 := 0) (k1 := 2) (b3 := true) (b5 := d) ?i1 hvc (by omega) ?i2 ?i3 ?i4 ?i5 (.inr rfl)) (by k_asm) (by k_asm) (by k_asm) (by k_asm) (by k_asm) (by first | exact rfl | assumption) (by ktr_room) (by ktr_units) ?_
  (case i1 => k_all)
  (case i2 => walk_at "my mem")
  (case i3 => walk_at "my mem")
  (case i4 => walk_at "my mem")
  (case i5 => walk_at "my mem")
  rintro r4 nw4 h4 tk4 F4 N4 ⟨o, dx, kl, st, at_, H, T, mk, vk, vc', cs', ys, nk, nst, nc', na, ta, tb, tc, td, te, tf, tg, rfl, rfl, hcs', hmd', ho, hkl, hk, hat, hS, hsd, hm1, hm2, hcd, hct, hr1, hr2, hmc, hfr, htg⟩
  obtain rfl : cs' = cs := hmd'.elim (fun q => absurd q.1 (by decide)) (fun q => q.2)
  clear hmd' htg
  have N5 := news_sw (pre := [_, _, _]) N4
  clear N4
  simp only [List.cons_append, List.nil_append] at N5
  have hR1 := fun p hp => hfr p hp (z2law_s1.heap.objs.size + 1, o1) (by walk_at "my mem")
  have hR2 := fun p hp => hfr p hp (z2law_s1.heap.objs.size + 1 + 1, o2) (by walk_at "my mem")
  have hR3 := fun p hp => hfr p hp (z2law_s1.heap.objs.size + 1 + 1 + 1, o3) (by walk_at "my mem")
  have hd1 := hr1 (z2law_s1.heap.objs.size + 1, o1) (by walk_at "my mem")
  have hd2 := hr1 (z2law_s1.heap.objs.size + 1 + 1, o2) (by walk_at "my mem")
  have hd3 := hr1 (z2law_s1.heap.objs.size + 1 + 1 + 1, o3) (by walk_at "my mem")
  have hs1 := hr2 (z2law_s1.heap.objs.size + 1, o1) (by walk_at "my mem")
  have hs2 := hr2 (z2law_s1.heap.objs.size + 1 + 1, o2) (by walk_at "my mem")
  have hs3 := hr2 (z2law_s1.heap.objs.size + 1 + 1 + 1, o3) (by walk_at "my mem")
  dsimp only at hR1 hR2 hR3 hd1 hd2 hd3 hs1 hs2 hs3
  have e1 : ∀ p ∈ R ++ mk, p.1 ≠ dx := all_app (fun p hp => hr1 p (by walk_at "my in")) hm1
  have e2 : ∀ p ∈ R ++ mk, p.1 ≠ z2law_s1.heap.objs.size + 1 := all_app a2 (fun p hp => Ne.symm (hR1 p hp))
  have e3 : ∀ p ∈ R ++ mk, p.1 ≠ z2law_s1.heap.objs.size + 1 + 1 := all_app a3 (fun p hp => Ne.symm (hR2 p hp))
  have e4 : ∀ p ∈ R ++ mk, p.1 ≠ z2law_s1.heap.objs.size + 1 + 1 + 1 := all_app a4 (fun p hp => Ne.symm (hR3 p hp))
  have hsR : ∀ p ∈ R, p ∈ R ++ mk := fun p hp => List.mem_append_left _ hp
  have hsM : ∀ p ∈ mk, p ∈ R ++ mk := fun p hp => List.mem_append_right _ hp
  generalize R ++ mk = RR at N5 e1 e2 e3 e4 hsR hsM
  have N10 := news_front (news_front (news_front (news_front N5 5 rfl) 5 rfl) 2 rfl) 5 rfl
  simp only [List.eraseIdx] at N10
  have Fa := fr_put (fr_put F4 (x := Str.ofString "content") rfl) (x := Str.ofString "taken") rfl
  refine cutw (MidB z2law_s1.heap z2law_s1.heap.objs.size o z2law_s1) ?_ ?_
  · refine' MidB.mk (vk := vk) (nk := nk) Fa N10 ⟨_, ho1⟩ ⟨_, ho2⟩ ⟨_, ho3⟩ List.mem_cons_self (List.mem_cons_of_mem _ List.mem_cons_self) (List.mem_cons_of_mem _ (List.mem_cons_of_mem _ (hsR _ htl))) (List.mem_cons_of_mem _ (List.mem_cons_of_mem _ (hsM _ ho))) (List.mem_cons_of_mem _ (List.mem_cons_of_mem _ (hsM _ hkl))) (keys_sub hk ?k1) (stamps_sub hS (fun p hp => List.mem_cons_of_mem _ (List.mem_cons_of_mem _ (hsM p hp)))) hcs' hvt hlen hok (Ne.symm hd1) (Ne.symm hd2) (Ne.symm hd3) (List.forall_mem_cons.mpr ⟨hsd, List.forall_mem_cons.mpr ⟨hcd, e1⟩⟩) (List.forall_mem_cons.mpr ⟨Ne.symm hs1, List.forall_mem_cons.mpr ⟨n1, e2⟩⟩) (List.forall_mem_cons.mpr ⟨Ne.symm hs2, List.forall_mem_cons.mpr ⟨n2, e3⟩⟩) (List.forall_mem_cons.mpr ⟨Ne.symm hs3, List.forall_mem_cons.mpr ⟨n3, e4⟩⟩)
    (case k1 => exact List.forall_mem_cons.mpr ⟨List.mem_cons_of_mem _ (List.mem_cons_of_mem _ (hsR _ hka)), List.forall_mem_cons.mpr ⟨List.mem_cons_of_mem _ (List.mem_cons_of_mem _ (hsR _ hkb)), fun p hp => List.mem_cons_of_mem _ (List.mem_cons_of_mem _ (hsM p hp))⟩⟩)
  · rename_i z116law_s4
    clear h tk c tl kk kt al ka kb mb ac d vc vt hi9 o1 o2 o3 nc nt R F0 N0 hK htl n1 n2 n3 n4 a1 a2 a3 a4 v1 ho1 v2 ho2 v3 ho3 nk1 hkk tk1 tk2 nk2 hkt nk3 hal tk3 z116law_s4 nk4 hka tk5 tk6 nk5 hkb m1 m2 m3 h4 tk4 F4 dx kl st at_ H T mk vk vc' cs' ys nk nst nc' na ta tb tc td te tf tg hcs' ho hkl hk hat hS hsd hm1 hm2 hcd hct hr1 hr2 hmc hfr hvc hvt hlen hok hR1 hR2 hR3 hd1 hd2 hd3 hs1 hs2 hs3 RR N5 e1 e2 e3 e4 hsR hsM N10 Fa
    revert z0law_s1 z1law_s1 z2law_s1 z3law_s1 z4law_s1 z5law_s1 z6law_s1 z7law_s1 z8law_s1 z9law_s1 z10law_s1 z11law_s1 z12law_s1 z13law_s1 z14law_s1 z15law_s1 z16law_s1 z17law_s1 z18law_s1 z19law_s1 z20law_s1 z21law_s1 z22law_s1 z23law_s1 z24law_s1 z25law_s1 z26law_s1 z27law_s1 z28law_s1 z29law_s1 z30law_s1 z31law_s1 z32law_s1 z33law_s1 z34law_s1 z35law_s1 z36law_s1 z37law_s1 z39law_s1 z40law_s1 z41law_s1 z43law_s1 z44law_s1 z45law_s1 z46law_s1 z47law_s1 z48law_s1 z49law_s1 z50law_s1 z51law_s1 z52law_s1 z53law_s1 z54law_s1 z55law_s1 z56law_s1 z57law_s1 z58law_s1 z57law_s3 z58law_s3 z59law_s3 z60law_s3 z66law_s1 z67law_s2 z68law_s1 z69law_s1 z70law_s1 z71law_s1 z72law_s1 o
    exact hP0.out⟩
end
section
local macro_rules | `(tactic| walk_at "compareOp Eq ref ref") => `(tactic| refine stop_ ?_)
local macro_rules | `(tactic| walk_at "my pad") => `(tactic| fail)
noncomputable def law_s5 : {P : Prop // Box P → law_s4.1} := ⟨_, fun hP0 => by
  w_top off
  unfold law_s4
  intro z0law_s1 z1law_s1 z2law_s1 z3law_s1 z4law_s1 z5law_s1 z6law_s1 z7law_s1 z8law_s1 z9law_s1 z10law_s1 z11law_s1 z12law_s1 z13law_s1 z14law_s1 z15law_s1 z16law_s1 z17law_s1 z18law_s1 z19law_s1 z20law_s1 z21law_s1 z22law_s1 z23law_s1 z24law_s1 z25law_s1 z26law_s1 z27law_s1 z28law_s1 z29law_s1 z30law_s1 z31law_s1 z32law_s1 z33law_s1 z34law_s1 z35law_s1 z36law_s1 z37law_s1 z39law_s1 z40law_s1 z41law_s1 z43law_s1 z44law_s1 z45law_s1 z46law_s1 z47law_s1 z48law_s1 z49law_s1 z50law_s1 z51law_s1 z52law_s1 z53law_s1 z54law_s1 z55law_s1 z56law_s1 z57law_s1 z58law_s1 z57law_s3 z58law_s3 z59law_s3 z60law_s3 z66law_s1 z67law_s2 z68law_s1 z69law_s1 z70law_s1 z71law_s1 z72law_s1 o
  rintro s' @⟨h, tk, dx, st, c, tl, kl, at_, mb, H, T, ac, d, vc, vt, vk, ys, cs, top, o1, o2, o3, tm, tac, td, te, tf, ns, nst, nc, nt, nk, R, F0, N0, ⟨v1, ho1⟩, ho2, ho3, hst, hc, htl, ho, hkl, hk, hS, hvc, hvt, hlen, hok, n1, n2, n3, a1, a2, a3, a4⟩
  have hl64 : cs.length < 64 := by omega
  have hsz : ∀ b ∈ cs, b.size < 10000 := fun b hb => by rw [hok.size b hb]; decide
  have m1 := Ne.symm n1
  have m2 := Ne.symm n2
  have m3 := Ne.symm n3
  k_steps
  walk_at "my forE"
  rename News _ _ _ _ => N9
  rename (Obj.data _ = Data.cell (some (Value.ref o))) => hL1
  refine' range_turns (n := 3) (mu₀ := [(dx, _), (_, o2), (_, o3)]) (news := (z2law_s1.heap.objs.size + 1, _) :: R) (Str.ofString "rows") (Str.ofString "first") (Str.ofString "found") (Str.ofString "found") (fun i p1 mu => KJ dx st c kl (z2law_s1.heap.objs.size + 1 + 1) (z2law_s1.heap.objs.size + 1 + 1 + 1) H T tm tac ns (.bytes #[] tf) mu) rfl (by exact rfl) (by assumption) (by decide) (by assumption) ?rN ?rA (KJ.mk ho2 ho3) ?_ ?_
  (case rN => exact newsSub N9 (by simp only [List.cons_append, List.nil_append]; walk_at "my subs"))
  (case rA => exact Apart.cons (List.forall_mem_cons.mpr ⟨m1, a1⟩) (Apart.cons (List.forall_mem_cons.mpr ⟨Nat.ne_of_lt (Nat.lt_succ_self _), a3⟩) (Apart.cons (List.forall_mem_cons.mpr ⟨Nat.ne_of_lt (Nat.lt_succ_of_lt (Nat.lt_succ_self _)), a4⟩) Apart.nil)))
  rotate_left
  · rintro p1 p2 p3 p4 mu h3 tk3 hJ hap F3 N3
    obtain @⟨wh, nw, rl, at3, o2', o3', ⟨w2, ho2'⟩, ⟨w3, ho3'⟩⟩ := hJ
    simp only [List.cons_append, List.nil_append] at N3
    k_steps
    refine Stop.go ?_
    refine' Sp.use (write48_c ?wa ?wb) (by k_asm) (by k_asm) (by k_asm) (by k_asm) (by k_asm) (by first | exact rfl | assumption) (by ktr_room) (by ktr_units) ?_
    (case wa => k_mem)
    (case wb => k_mem)
    rintro r7 nw7 h7 tk7 F7 N7 ⟨rfl, tp, rfl⟩
    try k_sweep
    k_steps
    refine Stop.go ?_
    refine' Sp.use (rewrite49_c ?wc ?wd) (by k_asm) (by k_asm) (by k_asm) (by k_asm) (by k_asm) (by first | exact rfl | assumption) (by ktr_room) (by ktr_units) ?_
    (case wc => k_mem)
    (case wd => k_mem)
    rintro r7 nw7 h7 tk7 F7 N7 ⟨rfl, tp, rfl⟩
    try k_sweep
    k_steps
    refine Stop.go ?_
    refine' Sp.use (delete49_c ?we ?wf) (by k_asm) (by k_asm) (by k_asm) (by k_asm) (by k_asm) (by first | exact rfl | assumption) (by ktr_room) (by ktr_units) ?_
    (case we => k_mem)
    (case wf => k_mem)
    rintro r7 nw7 h7 tk7 F7 N7 ⟨rfl, tp, rfl⟩
    try k_sweep
    k_steps
    refine Stop.go ?_
    refine' eq_bys (by k_asm) ?wg ?wh9 hvc hvt (by ktr_units) ?_
    (case wg => k_mem)
    (case wh9 => k_mem)
    rw [show decide (cs = cs) = true by simp]
    k_steps
  rintro i t9 p1 p2 p3 p4 mu ro h3 tk3 hi hJ hsub hap F3 N3
  obtain @⟨wh, nw, rl, at3, o2', o3', ⟨w2, ho2'⟩, ⟨w3, ho3'⟩⟩ := hJ
  simp only [List.cons_append, List.nil_append] at N3
  obtain ⟨x1, hap⟩ := hap.head
  obtain ⟨x2, hap⟩ := hap.head
  obtain ⟨x3, hap⟩ := hap.head
  dsimp only at x1 x2 x3
  have hL1' := hsub _ List.mem_cons_self
  have hsR : ∀ p ∈ R, p ∈ ro := fun p hp => hsub p (List.mem_cons_of_mem _ hp)
  have hst' := hsR _ hst
  have hc' := hsR _ hc
  have htl' := hsR _ htl
  have ho' := hsR _ ho
  have hkl' := hsR _ hkl
  have hk' := keys_sub hk hsR
  have hS' := stamps_sub hS hsR
  clear hsub hap hst hc htl ho hkl hk hS hsR ho2 ho3 a1 a2 a3 a4
  k_steps
  have hvl9 : vt.length < 10000 := by have := hvt.len; omega
  walk_at "my enE"
  rename (Obj.data _ = Data.cell (some (Value.int (i : Int) t9))) => hL2
  rename News _ _ _ _ => N4
  refine' en_callE (.type "tuple") (fun l v (j : Nat) => XRow l v (row3 (lawKey d i) (cs.getD j #[], (j : Int)))) (fun l l' v i h hs => h.mono hs) (fun _ => true) (by rfl) ?eh hvl9 (by decide) (by rfl) (by rfl) (by rfl) (by decide) (by k_asm) (by k_asm) ?_ ?_
  (case eh => k_mem)
  · intro i9 t8 v9 nx C9 oC9 m9 h9 tk9 E9 hv9 hC9 ha9 hb9 hCm9 hsub9 F9 N9
    obtain ⟨b9, hb9', tb9, rfl⟩ := hvt.get' hv9
    have hb4 : b9.size < 10000 := hsz _ (List.mem_of_getElem? hb9')
    have hbd : cs.getD i9 #[] = b9 := by rw [List.getD_eq_getElem?_getD, hb9']; rfl
    refine enTests_nil (EtEnd.yes ⟨rfl, ?_⟩)
    k_steps
    refine Stop.go ?_
    refine' Sp.use (part_c (d9 := d) hi hb4) (by k_asm) (by k_asm) (by k_asm) (by k_asm) (by k_asm) (by first | exact rfl | assumption) (by ktr_room) (by ktr_units) ?_
    rintro r7 nw7 h7 tk7 F7 N7 ⟨tp, rfl, rfl⟩
    try k_sweep
    k_steps
    rename ∀ p ∈ nw7, p.1 < _ => l9
    refine' ⟨_, _, [(_, _)], rfl, by k_asm, newsSub (by k_asm) ?s5sa, ?s5ca, ?s5fa, ?s5ra⟩
    (case s5sa => walk_at "my subs")
    (case s5ca => exact fun q hq => by rw [List.mem_singleton.mp hq])
    (case s5fa => exact fun q hq p hp => by rw [List.mem_singleton.mp hq]; exact Nat.ne_of_lt (l9 p hp))
    (case s5ra => (rw [hbd]; exact ⟨_, _, _, _, _, rfl, List.mem_cons_self⟩))
  intro D9 h9 tk9 ys9 tl9 F9 N9 htD9 hoD9 hA9 hc9 hf9
  rw [hvt.len, List.filter_eq_self.mpr (fun _ _ => rfl)] at hA9
  simp only [LCg.Off1] at hoD9
  k_steps
  refine Stop.go ?_
  refine sorted_rows (vs := ys9) (ks := (List.range cs.length).map (kkey (lawKey d i) cs (SS cs.length))) F9 N9 ⟨_, (N9 _ (List.Mem.head _)).1, rfl, _, rfl⟩ (rows_keys hA9 (fun p hp => List.mem_cons_of_mem _ (List.mem_append_left _ hp))) (by rw [kkey_snd SS_len]; exact SS_nodup) (by simpa using hl64) ?_
  intro D8 c8 h8 p8 F8 N8 hl8 hp8 hpw8
  rw [List.length_map, List.length_range] at hp8
  rw [kkey_pick hp8] at hpw8
  have hX8 := rows_pick hA9 hp8
  clear hA9
  generalize (p8.map fun i => ys9.getD i Value.none) = rv8 at N8 hX8
  have N7 := newsSub (news_sw (pre := [_]) (fun q hq => N8 q (by
    rcases List.mem_cons.mp hq with rfl | hq
    · exact List.mem_cons_self
    · exact List.mem_cons_of_mem _ (List.mem_cons_of_mem _ hq)))) (fun q hq => hq)
  simp only [List.cons_append, List.nil_append] at N7
  have N10 := news_front (news_front (news_front N7 3 rfl) 3 rfl) 3 rfl
  simp only [List.eraseIdx] at N10
  have d1 : dx < D8 := hl8 (dx, _) (List.mem_cons_of_mem _ (List.mem_append_right _ List.mem_cons_self))
  have d2 : z2law_s1.heap.objs.size + 1 + 1 < D8 := hl8 (_, _) (List.mem_cons_of_mem _ (List.mem_append_right _ (List.mem_cons_of_mem _ List.mem_cons_self)))
  have d3 : z2law_s1.heap.objs.size + 1 + 1 + 1 < D8 := hl8 (_, _) (List.mem_cons_of_mem _ (List.mem_append_right _ (List.mem_cons_of_mem _ (List.mem_cons_of_mem _ List.mem_cons_self))))
  have y1 : ∀ p ∈ (D8, listOf rv8.toArray c8) :: (ro ++ tl9), p.1 ≠ dx := List.forall_mem_cons.mpr ⟨Nat.ne_of_gt d1, all_app x1 (fun q hq => Ne.symm (hf9 q hq (dx, _) List.mem_cons_self))⟩
  have y2 : ∀ p ∈ (D8, listOf rv8.toArray c8) :: (ro ++ tl9), p.1 ≠ z2law_s1.heap.objs.size + 1 + 1 := List.forall_mem_cons.mpr ⟨Nat.ne_of_gt d2, all_app x2 (fun q hq => Ne.symm (hf9 q hq (_, _) (List.mem_cons_of_mem _ List.mem_cons_self)))⟩
  have y3 : ∀ p ∈ (D8, listOf rv8.toArray c8) :: (ro ++ tl9), p.1 ≠ z2law_s1.heap.objs.size + 1 + 1 + 1 := List.forall_mem_cons.mpr ⟨Nat.ne_of_gt d3, all_app x3 (fun q hq => Ne.symm (hf9 q hq (_, _) (List.mem_cons_of_mem _ (List.mem_cons_of_mem _ List.mem_cons_self))))⟩
  have hsub9 : ∀ p ∈ ro, p ∈ (D8, listOf rv8.toArray c8) :: (ro ++ tl9) := fun p hp => List.mem_cons_of_mem _ (List.mem_append_left _ hp)
  have hX := hX8.mono fun _ _ q => q.mono (led' := (D8, listOf rv8.toArray c8) :: (ro ++ tl9)) (fun p hp => List.mem_cons_of_mem _ (List.mem_append_right _ hp))
  have hD8 : (D8, listOf rv8.toArray c8) ∈ (D8, listOf rv8.toArray c8) :: (ro ++ tl9) := List.mem_cons_self
  clear N7 N8 N9 hl8 hX8 hoD9 htD9 hc9 hf9 d1 d2 d3 F9
  generalize (D8, listOf rv8.toArray c8) :: (ro ++ tl9) = RR at N10 y1 y2 y3 hsub9 hX hD8
  refine cutw (TnA z2law_s1.heap z2law_s1.heap.objs.size o dx st c kl H T tm tac tf ns d i ro _ D8 z2law_s1) (TnA.mk (vk := vk) F8 N10 (hsub9 _ hL1') hL1 hL2 ⟨_, ho3'⟩ (hsub9 _ hst') (hsub9 _ hc') (hsub9 _ ho') (hsub9 _ hkl') (keys_sub hk' hsub9) (stamps_sub hS' hsub9) hvc hlen hok hi hD8 hX hp8 hpw8 hsub9 n2 n3 y1 y2 y3) ?_
  · rename_i z68law_s5 z114law_s5 z115law_s5 z117law_s5 z118law_s5 z119law_s5 z120law_s5 z121law_s5 z122law_s5 z123law_s5 z124law_s5 z125law_s5 z126law_s5 z144law_s5 z151law_s5 z163law_s5 z164law_s5 z165law_s5
    clear z58law_s3 z59law_s3 z60law_s3 z67law_s2 h z68law_s5 at_ ac vc vt vk ys cs top o1 o2 o3 td te nst nc nt nk R hvc hvt hlen hok n1 n2 n3 v1 ho1 hl64 hsz m1 m2 m3 z114law_s5 z115law_s5 hL1 z117law_s5 z118law_s5 z119law_s5 z120law_s5 z121law_s5 z122law_s5 z123law_s5 z124law_s5 z125law_s5 z126law_s5 t9 p1 p2 p3 p4 hi F3 wh nw rl at3 o2' o3' z144law_s5 N3 w2 ho2' w3 ho3' x1 z151law_s5 x2 hap x3 hL1' hst' hc' htl' ho' hkl' hk' hS' z163law_s5 z164law_s5 z165law_s5 N4 hL2 tk hvl9 qk ek D9 h9 tk9 ys9 tl9 c8 h8 p8 F8 hp8 hpw8 rv8 RR N10 y1 y2 y3 hsub9 hX hD8
    revert z0law_s1 z1law_s1 z2law_s1 z3law_s1 z4law_s1 z5law_s1 z6law_s1 z7law_s1 z8law_s1 z9law_s1 z10law_s1 z11law_s1 z12law_s1 z13law_s1 z14law_s1 z15law_s1 z16law_s1 z17law_s1 z18law_s1 z19law_s1 z20law_s1 z21law_s1 z22law_s1 z23law_s1 z24law_s1 z25law_s1 z26law_s1 z27law_s1 z28law_s1 z29law_s1 z30law_s1 z31law_s1 z32law_s1 z33law_s1 z34law_s1 z35law_s1 z36law_s1 z37law_s1 z39law_s1 z40law_s1 z41law_s1 z43law_s1 z44law_s1 z45law_s1 z46law_s1 z47law_s1 z48law_s1 z49law_s1 z50law_s1 z51law_s1 z52law_s1 z53law_s1 z54law_s1 z55law_s1 z56law_s1 z57law_s1 z58law_s1 z57law_s3 z66law_s1 z68law_s1 z69law_s1 z72law_s1 o dx st c tl kl mb H T d tm tac tf ns i ro h3 tk3 D8
    exact hP0.out⟩
end
noncomputable def law_s6 : {P : Prop // Box P → law_s5.1} := ⟨_, fun hP0 => by
  w_top off
  unfold law_s5
  intro z0law_s1 z1law_s1 z2law_s1 z3law_s1 z4law_s1 z5law_s1 z6law_s1 z7law_s1 z8law_s1 z9law_s1 z10law_s1 z11law_s1 z12law_s1 z13law_s1 z14law_s1 z15law_s1 z16law_s1 z17law_s1 z18law_s1 z19law_s1 z20law_s1 z21law_s1 z22law_s1 z23law_s1 z24law_s1 z25law_s1 z26law_s1 z27law_s1 z28law_s1 z29law_s1 z30law_s1 z31law_s1 z32law_s1 z33law_s1 z34law_s1 z35law_s1 z36law_s1 z37law_s1 z39law_s1 z40law_s1 z41law_s1 z43law_s1 z44law_s1 z45law_s1 z46law_s1 z47law_s1 z48law_s1 z49law_s1 z50law_s1 z51law_s1 z52law_s1 z53law_s1 z54law_s1 z55law_s1 z56law_s1 z57law_s1 z58law_s1 z57law_s3 z66law_s1 z68law_s1 z69law_s1 z72law_s1 o dx st c tl kl mb H T d tm tac tf ns i ro h3 tk3 D8
  rintro s' @⟨h, tk, at3, wh, nw, rl, ac, vc, vk, ys, rv, cs, top, o1, o2, o3, p1, p2, p3, p4, t9, nst, nc, nk, c8, p8, RR, F0, N0, hL1, ho1, ho2, ⟨v3, ho3⟩, hst, hc, ho, hkl, hk, hS, hvc, hlen, hok, hi, hD8, hX, hp8, hpw8, hsub, n2, n3, y1, y2, y3⟩
  have m2 := Ne.symm n2
  have m3 := Ne.symm n3
  have hsz : ∀ b ∈ cs, b.size < 10000 := fun b hb => by rw [hok.size b hb]; decide
  k_steps
  refine Stop.go ?_
  refine' item_at (vs := [_, _, _]) (by k_asm) ?im2 (by simp only [List.length]; omega) (by simp only [List.length]; decide) ?_
  (case im2 => k_mem)
  intro v9 hv9
  obtain ⟨kb, tkb, rfl, hkb⟩ := by_of_three hv9 (by decide) (by decide) (by decide)
  k_steps
  walk_at "my assignT"
  have hrl : rv.length < 10000 := by
    have h1 := hX.len
    have h2 := hp8.length_eq
    rw [List.length_map] at h1
    rw [List.length_range] at h2
    omega
  refine LCt.CompSrcT.ledger (by rfl) (by k_asm) (by k_asm) (by k_mem) (by rw [sizeLine_eq, List.size_toArray]; omega) ?_
  intro g9
  refine compT_map (R' := IsB) (f := fun x : Row3 => x.2.2) (R := fun l v x => XRow l v x) (fun l l' v x h hs => h.mono hs) hX (by walk_at "my sub") (fun x => decide (x.1 = kb)) (srcAt_led (by k_mem)) ?_ ?_
  rotate_left
  · intro i9 x9 v9 nx C9 oC9 m9 h9 tk9 E9 hx9 hrow hC hx hmC hsub9 F9 N9
    obtain ⟨ra, rt1, rt2, rt3, rn9, rfl, hrm⟩ := hrow
    k_steps
    refine ⟨_, _, rfl, by k_asm, by k_asm, fun e => ⟨e, ?_⟩, fun e => e⟩
    k_steps
    exact ⟨_, _, rfl, by assumption, newsSub (by k_asm) (by walk_at "my sub"), _, rfl⟩
  intro ys1 hys1 D1 h9 tk9 F9 N9 o9
  simp only [LCg.Off1] at o9
  k_steps
  refine Stop.go ?_
  rename (Obj.data _ = Data.cell (some (Value.bytes kb tkb))) => hL3
  have N10 := news_front (news_front (news_front N9 4 rfl) 4 rfl) 4 rfl
  simp only [List.eraseIdx] at N10
  have N11 := newsSub (news := (dx, _) :: (_, o2) :: (z2law_s1.heap.objs.size + 1 + 1 + 1, _) :: (D1, LCg.lst ys1) :: RR) N10 (by walk_at "my subs")
  have Fa := fr_put (fr_put F9 (x := Str.ofString "rows") rfl) (x := Str.ofString "first") rfl
  rw [rows_so] at hys1
  refine cutw (TnB z2law_s1.heap z2law_s1.heap.objs.size o dx st c kl H T tm tac tf ns d i ro (fun z => if z = Str.ofString "taken" then some (Value.ref tl) else if z = Str.ofString "content" then some (Value.ref c) else mb z) kb z2law_s1) (TnB.mk (vk := vk) Fa ?hm N11 (List.mem_cons_of_mem _ hL1) ho1 ho2 hL3 (List.mem_cons_of_mem _ hst) (List.mem_cons_of_mem _ hc) (List.mem_cons_of_mem _ ho) (List.mem_cons_of_mem _ hkl) (keys_cons hk) (stamps_cons hS) hvc hlen hok hi hkb (List.mem_cons_of_mem _ hD8) (hX.mono fun _ _ q => q.mono fun p hp => List.mem_cons_of_mem _ hp) hp8 hpw8 List.mem_cons_self hys1 (fun p hp => List.mem_cons_of_mem _ (hsub p hp)) n2 n3 (List.forall_mem_cons.mpr ⟨Ne.symm o9.2.1, y1⟩) (List.forall_mem_cons.mpr ⟨Ne.symm o9.2.2.1, y2⟩) (List.forall_mem_cons.mpr ⟨Ne.symm o9.2.2.2.1, y3⟩)) ?_
  (case hm => exact fun z h1 h2 h3 => by simp [h1, h2, h3])
  · rename_i z82law_s6 z136law_s6 z137law_s6 z138law_s6 z139law_s6 z140law_s6 z145law_s6 z146law_s6 z147law_s6 z148law_s6
    clear D8 h z82law_s6 at3 wh nw rl ac vc vk ys rv cs top o1 o2 o3 p1 p2 p3 p4 nst nc nk c8 p8 RR hL1 ho1 ho2 hst hc ho hkl hk hS hvc hlen hok hi hD8 hX hp8 hpw8 hsub n2 n3 y1 y2 y3 v3 ho3 m2 m3 hsz z136law_s6 z137law_s6 z138law_s6 z139law_s6 z140law_s6 hkb hv9 z145law_s6 z146law_s6 z147law_s6 z148law_s6 hL3 tk qk ek hrl g9 ys1 hys1 D1 h9 tk9 F9 N9 o9 N10 N11 Fa
    revert z0law_s1 z1law_s1 z2law_s1 z3law_s1 z4law_s1 z5law_s1 z6law_s1 z7law_s1 z8law_s1 z9law_s1 z10law_s1 z11law_s1 z12law_s1 z13law_s1 z14law_s1 z15law_s1 z16law_s1 z17law_s1 z18law_s1 z19law_s1 z20law_s1 z21law_s1 z22law_s1 z23law_s1 z24law_s1 z25law_s1 z26law_s1 z27law_s1 z28law_s1 z29law_s1 z30law_s1 z31law_s1 z32law_s1 z33law_s1 z34law_s1 z35law_s1 z36law_s1 z37law_s1 z39law_s1 z40law_s1 z41law_s1 z43law_s1 z44law_s1 z45law_s1 z46law_s1 z47law_s1 z48law_s1 z49law_s1 z50law_s1 z51law_s1 z52law_s1 z53law_s1 z54law_s1 z55law_s1 z56law_s1 z57law_s1 z58law_s1 z57law_s3 z66law_s1 z68law_s1 z69law_s1 z72law_s1 o dx st c tl kl mb H T d tm tac tf ns i ro h3 tk3 t9 kb tkb
    exact hP0.out⟩
section
local macro_rules | `(tactic| walk_at "compareOp NotEq ref ref") => `(tactic| first | (k_here; k_dflt (refine' ne_nil ?k1 ?k2 ?k3 ?k4 ?_; (case k1 => k_asm); (case k2 | k3 => k_mem); (case k4 => ktr_units); k_whole)) | refine stop_ ?_)
noncomputable def law_s7 : {P : Prop // Box P → law_s6.1} := ⟨_, fun hP0 => by
  w_top off
  unfold law_s6
  intro z0law_s1 z1law_s1 z2law_s1 z3law_s1 z4law_s1 z5law_s1 z6law_s1 z7law_s1 z8law_s1 z9law_s1 z10law_s1 z11law_s1 z12law_s1 z13law_s1 z14law_s1 z15law_s1 z16law_s1 z17law_s1 z18law_s1 z19law_s1 z20law_s1 z21law_s1 z22law_s1 z23law_s1 z24law_s1 z25law_s1 z26law_s1 z27law_s1 z28law_s1 z29law_s1 z30law_s1 z31law_s1 z32law_s1 z33law_s1 z34law_s1 z35law_s1 z36law_s1 z37law_s1 z39law_s1 z40law_s1 z41law_s1 z43law_s1 z44law_s1 z45law_s1 z46law_s1 z47law_s1 z48law_s1 z49law_s1 z50law_s1 z51law_s1 z52law_s1 z53law_s1 z54law_s1 z55law_s1 z56law_s1 z57law_s1 z58law_s1 z57law_s3 z66law_s1 z68law_s1 z69law_s1 z72law_s1 o dx st c tl kl mb H T d tm tac tf ns i ro h3 tk3 t9 kb tkb
  rintro s' @⟨h, tk, at3, D1, D8, wh, nw, rl, ac, vc, vk, ys, rv, ys1, cs, top, o1, o2, o3, t8, tkb', nst, nc, nk, c8, p8, RR, mb', F0, hmb, N0, hL1, ho1, ho2, ho3, hst, hc, ho, hkl, hk, hS, hvc, hlen, hok, hi, hkb, hD8, hX, hp8, hpw8, hD1, hys, hsub, n2, n3, y1, y2, y3⟩
  have m2 := Ne.symm n2
  have m3 := Ne.symm n3
  have hsz : ∀ b ∈ cs, b.size < 10000 := fun b hb => by rw [hok.size b hb]; decide
  refine' Sp.use (Sp.sub (read_at_c (rest := (_, o2) :: (_, o3) :: RR) (H := H) (T := T) (md := Str.ofString "input") (ac := Str.ofString "dynamic") (tm := tm) (tac := tac) (ns := ns) (wh := wh) (nw := nw) (rl := rl) (hi := .bytes #[] tf) (at_ := at3) (kl := kl) (st := st) (c := c) (k := lawKey d i) (wi := (i : Int)) (cs := cs) (S := SS cs.length) (List.mem_cons_of_mem _ (List.mem_cons_of_mem _ ho)) (List.forall_mem_cons.mpr ⟨m2, List.forall_mem_cons.mpr ⟨m3, y1⟩⟩) (List.mem_cons_of_mem _ (List.mem_cons_of_mem _ hkl)) (keys_cons (keys_cons hk)) (by omega) (by omega) (lawKey_get hi) (List.mem_cons_of_mem _ (List.mem_cons_of_mem _ hc)) hvc (List.mem_cons_of_mem _ (List.mem_cons_of_mem _ hst)) (stamps_cons (stamps_cons hS)) SS_len SS_nodup (by omega) hsz (by decide) (by decide) hkb) (fun p hp => hp)) (by k_asm) (by k_asm) (by k_asm) (by k_asm) (by k_asm) (by first | exact rfl | assumption) (by ktr_room) (by ktr_units) ?_
  rintro r7 nw7 h7 tk7 F7 N7 (⟨hnone, a, n, u1, u2, u3, rfl, rfl, z1, z2⟩ | ⟨i9, hi9, hk9, hmin9, a, n, ata2, n2', u1, u2, u3, u5, u6, rfl, rfl, z1, z2, z3, z4, z5⟩)
  focus
    try k_sweep
    have hf0 : (p8.filter fun j => decide ((kkey (lawKey d i) cs (SS cs.length) j).1 = kb)) = [] := List.filter_eq_nil_iff.mpr fun j hj => by simpa using hnone j (lt_of_pick hp8 j hj)
    rw [hf0] at hys
    obtain rfl : ys1 = [] := List.eq_nil_of_length_eq_zero hys.len
    k_steps
    refine Stop.go ?_
    refine' ne_pair_ff (by k_asm) ?w1 ?w2 (by ktr_units) (eqAt_bool _ _ _ _) (eqAt_by _ _ _ _ _ _) ?w3 ?w4 ?_
    (case w1 | w2 => k_mem)
    (case w3 => decide)
    (case w4 => exact decide_eq_true rfl)
    k_steps
    refine Stop.go ?_
    rename Fr _ _ _ _ => F9
    rename News _ _ _ _ => N9
    have N11 := newsSub (news := (dx, _) :: (z2law_s1.heap.objs.size + 1 + 1, o2) :: (z2law_s1.heap.objs.size + 1 + 1 + 1, o3) :: RR) N9 (by walk_at "my subs")
    have Fa := fr_put F9 (x := Str.ofString "rows") rfl
    refine cutw (TnC z2law_s1.heap z2law_s1.heap.objs.size o dx st c kl H T tm tac tf ns d i ro (fun z => if z = Str.ofString "taken" then some (Value.ref tl) else if z = Str.ofString "content" then some (Value.ref c) else mb z) z2law_s1) (TnC.mk (vk := vk) Fa ?hmA N11 hL1 ho1 ho2 ⟨_, ho3⟩ hst hc ho hkl hk hS hvc hlen hok hi hD8 hX hp8 hpw8 hsub n2 n3 y1 y2 y3) ?_
    (case hmA => exact fun z h1 h2 h3 => by simp only [h1, h2, h3, if_false]; exact hmb z h1 h2 h3)
  rotate_left
  focus
    try k_sweep
    obtain ⟨r9, hf1⟩ := filt_head (g := kkey (lawKey d i) cs (SS cs.length)) (p := p8) (pz := fun j => decide ((kkey (lawKey d i) cs (SS cs.length) j).1 = kb)) hpw8 (hp8.mem_iff.mpr (List.mem_range.mpr hi9)) (decide_eq_true hk9) (fun j hj hz => hmin9 j (lt_of_pick hp8 j hj) (of_decide_eq_true hz))
    rw [hf1, List.map_cons] at hys
    obtain ⟨v0, hv0, tv0, rfl⟩ := hys.get (i := 0) rfl
    have hv0' : ys1[(0 : Int).toNat]? = some (.bytes (cs.getD i9 #[]) tv0) := hv0
    have hy0 : ¬ ys1.toArray.size = 0 := by rw [List.size_toArray, hys.len]; exact Nat.succ_ne_zero _
    have hyl : ys1.length < 10000 := by
      have h1 := hys.len
      have h2 := congrArg List.length hf1
      have h3 := List.length_filter_le (fun j => decide ((kkey (lawKey d i) cs (SS cs.length) j).1 = kb)) p8
      have h4 := hp8.length_eq
      rw [List.length_range] at h4
      simp only [List.length_cons, List.length_map] at h1 h2
      omega
    obtain ⟨fs, hfs⟩ : ∃ fs, fs = fstat (lawKey d i) cs (SS cs.length) (i : Int) i9 := ⟨_, rfl⟩
    rw [← hfs] at N7
    have hfs2 : fs = Str.ofString "00" ∨ fs = Str.ofString "02" := by rw [hfs]; exact fstat_two
    clear hfs
    k_steps
    refine Stop.go ?_
    refine' ne_pair_ff (by k_asm) ?w5 ?w6 (by ktr_units) (eqAt_bool _ _ _ _) (eqAt_by _ _ _ _ _ _) ?w7 ?w8 ?_
    (case w5 | w6 => k_mem)
    (case w7 => (rcases hfs2 with rfl | rfl <;> first | (rw [decide_eq_false hy0]; decide) | (simp [hy0]; done)))
    (case w8 => exact decide_eq_true rfl)
    k_steps
    refine Stop.go ?_
    rename Fr _ _ _ _ => F9
    rename News _ _ _ _ => N9
    have N11 := newsSub (news := (dx, _) :: (z2law_s1.heap.objs.size + 1 + 1, o2) :: (z2law_s1.heap.objs.size + 1 + 1 + 1, o3) :: RR) N9 (by walk_at "my subs")
    have Fa := fr_put F9 (x := Str.ofString "rows") rfl
    refine cutw (TnC z2law_s1.heap z2law_s1.heap.objs.size o dx st c kl H T tm tac tf ns d i ro (fun z => if z = Str.ofString "taken" then some (Value.ref tl) else if z = Str.ofString "content" then some (Value.ref c) else mb z) z2law_s1) (TnC.mk (vk := vk) Fa ?hmB N11 hL1 ho1 ho2 ⟨_, ho3⟩ hst hc ho hkl hk hS hvc hlen hok hi hD8 hX hp8 hpw8 hsub n2 n3 y1 y2 y3) ?_
    (case hmB => exact fun z h1 h2 h3 => by simp only [h1, h2, h3, if_false]; exact hmb z h1 h2 h3)
  · rename_i z84law_s7 z173law_s7 z174law_s7 z175law_s7 z176law_s7 z177law_s7 z178law_s7 z179law_s7 z180law_s7 z181law_s7 z182law_s7 z183law_s7 z184law_s7 z185law_s7 z186law_s7 z187law_s7 z188law_s7 z189law_s7 z190law_s7 z191law_s7 z194law_s7
    clear t9 kb tkb h z84law_s7 at3 D1 D8 wh nw rl ac vc vk ys rv ys1 cs top o1 o2 o3 tkb' nst nc nk c8 p8 RR mb' F0 hmb N0 hL1 ho1 ho2 ho3 hst hc ho hkl hk hS hvc hlen hok hi hkb hD8 hX hp8 hpw8 hD1 hsub n2 n3 y1 y2 y3 m2 m3 hsz h7 tk7 i9 hi9 hk9 hmin9 a n ata2 n2' u1 u2 u3 u5 u6 z1 z2 z3 z4 z5 r9 hys hf1 tv0 hv0 hv0' hy0 hyl fs hfs2 z173law_s7 z174law_s7 z175law_s7 z176law_s7 z177law_s7 z178law_s7 z179law_s7 z180law_s7 z181law_s7 z182law_s7 z183law_s7 z184law_s7 z185law_s7 z186law_s7 z187law_s7 z188law_s7 z189law_s7 z190law_s7 z191law_s7 F9 N9 z194law_s7 N11 Fa
    revert z0law_s1 z1law_s1 z2law_s1 z3law_s1 z4law_s1 z5law_s1 z6law_s1 z7law_s1 z8law_s1 z9law_s1 z10law_s1 z11law_s1 z12law_s1 z13law_s1 z14law_s1 z15law_s1 z16law_s1 z17law_s1 z18law_s1 z19law_s1 z20law_s1 z21law_s1 z22law_s1 z23law_s1 z24law_s1 z25law_s1 z26law_s1 z27law_s1 z28law_s1 z29law_s1 z30law_s1 z31law_s1 z32law_s1 z33law_s1 z34law_s1 z35law_s1 z36law_s1 z37law_s1 z39law_s1 z40law_s1 z41law_s1 z43law_s1 z44law_s1 z45law_s1 z46law_s1 z47law_s1 z48law_s1 z49law_s1 z50law_s1 z51law_s1 z52law_s1 z53law_s1 z54law_s1 z55law_s1 z56law_s1 z57law_s1 z58law_s1 z57law_s3 z66law_s1 z68law_s1 z69law_s1 z72law_s1 o dx st c tl kl mb H T d tm tac tf ns i ro h3 tk3 t8 tk
    exact hP0.out
  · rename_i z84law_s7 z154law_s7 z155law_s7 z156law_s7 z157law_s7 z158law_s7 z159law_s7 z160law_s7 z161law_s7 z162law_s7 z163law_s7 z164law_s7 z165law_s7 z166law_s7 z167law_s7 z168law_s7 z169law_s7 z170law_s7 z171law_s7 z172law_s7 z175law_s7
    clear t9 kb tkb h z84law_s7 at3 D1 D8 wh nw rl ac vc vk ys rv cs top o1 o2 o3 tkb' nst nc nk c8 p8 RR mb' F0 hmb N0 hL1 ho1 ho2 ho3 hst hc ho hkl hk hS hvc hlen hok hi hkb hD8 hX hp8 hpw8 hsub n2 n3 y1 y2 y3 m2 m3 hsz h7 tk7 hnone a n u1 u2 u3 z1 z2 hf0 hD1 hys z154law_s7 z155law_s7 z156law_s7 z157law_s7 z158law_s7 z159law_s7 z160law_s7 z161law_s7 z162law_s7 z163law_s7 z164law_s7 z165law_s7 z166law_s7 z167law_s7 z168law_s7 z169law_s7 z170law_s7 z171law_s7 z172law_s7 F9 N9 z175law_s7 N11 Fa
    revert z0law_s1 z1law_s1 z2law_s1 z3law_s1 z4law_s1 z5law_s1 z6law_s1 z7law_s1 z8law_s1 z9law_s1 z10law_s1 z11law_s1 z12law_s1 z13law_s1 z14law_s1 z15law_s1 z16law_s1 z17law_s1 z18law_s1 z19law_s1 z20law_s1 z21law_s1 z22law_s1 z23law_s1 z24law_s1 z25law_s1 z26law_s1 z27law_s1 z28law_s1 z29law_s1 z30law_s1 z31law_s1 z32law_s1 z33law_s1 z34law_s1 z35law_s1 z36law_s1 z37law_s1 z39law_s1 z40law_s1 z41law_s1 z43law_s1 z44law_s1 z45law_s1 z46law_s1 z47law_s1 z48law_s1 z49law_s1 z50law_s1 z51law_s1 z52law_s1 z53law_s1 z54law_s1 z55law_s1 z56law_s1 z57law_s1 z58law_s1 z57law_s3 z66law_s1 z68law_s1 z69law_s1 z72law_s1 o dx st c tl kl mb H T d tm tac tf ns i ro h3 tk3 t8 tk
    exact hP0.out⟩
end
noncomputable def law_s8 : {P : Prop // Box P → law_s7.1} := ⟨_, fun hP0 => by
  w_top off
  unfold law_s7
  intro z0law_s1 z1law_s1 z2law_s1 z3law_s1 z4law_s1 z5law_s1 z6law_s1 z7law_s1 z8law_s1 z9law_s1 z10law_s1 z11law_s1 z12law_s1 z13law_s1 z14law_s1 z15law_s1 z16law_s1 z17law_s1 z18law_s1 z19law_s1 z20law_s1 z21law_s1 z22law_s1 z23law_s1 z24law_s1 z25law_s1 z26law_s1 z27law_s1 z28law_s1 z29law_s1 z30law_s1 z31law_s1 z32law_s1 z33law_s1 z34law_s1 z35law_s1 z36law_s1 z37law_s1 z39law_s1 z40law_s1 z41law_s1 z43law_s1 z44law_s1 z45law_s1 z46law_s1 z47law_s1 z48law_s1 z49law_s1 z50law_s1 z51law_s1 z52law_s1 z53law_s1 z54law_s1 z55law_s1 z56law_s1 z57law_s1 z58law_s1 z57law_s3 z66law_s1 z68law_s1 z69law_s1 z72law_s1 o dx st c tl kl mb H T d tm tac tf ns i ro h3 tk3 t8 tk
  rintro s' @⟨h, tk, at3, D8, wh, nw, rl, ac, vc, vk, ys, rv, cs, top, o1, o2, o3, t8, nst, nc, nk, c8, p8, RR, mb', F0, hmb, N0, hL1, ho1, ho2, ho3, hst, hc, ho, hkl, hk, hS, hvc, hlen, hok, hi, hD8, hX, hp8, hpw8, hsub, n2, n3, y1, y2, y3⟩
  have m2 := Ne.symm n2
  have m3 := Ne.symm n3
  have hsz : ∀ b ∈ cs, b.size < 10000 := fun b hb => by rw [hok.size b hb]; decide
  have hXl : (p8.map fun j => row3 (lawKey d i) (cs.getD j #[], (SS cs.length).getD j 0)).length < 63 := by rw [List.length_map, hp8.length_eq, List.length_range]; exact hlen
  refine' Sp.use (start_c (rest := (_, o2) :: (_, o3) :: RR) (H := H) (T := T) (md := Str.ofString "input") (ac := Str.ofString "dynamic") (tm := tm) (tac := tac) (ns := ns) (wh := wh) (nw := nw) (rl := rl) (hi := .bytes #[] tf) (at_ := at3) (kl := kl) (st := st) (c := c) (k := lawKey d i) (wi := (i : Int)) (cs := cs) (S := SS cs.length) (List.mem_cons_of_mem _ (List.mem_cons_of_mem _ ho)) (List.forall_mem_cons.mpr ⟨m2, List.forall_mem_cons.mpr ⟨m3, y1⟩⟩) (List.mem_cons_of_mem _ (List.mem_cons_of_mem _ hkl)) (keys_cons (keys_cons hk)) (by omega) (by omega) (lawKey_get hi) (List.mem_cons_of_mem _ (List.mem_cons_of_mem _ hc)) hvc (List.mem_cons_of_mem _ (List.mem_cons_of_mem _ hst)) (stamps_cons (stamps_cons hS)) SS_len SS_nodup (by omega) hsz (by decide) (by decide)) (by k_asm) (by k_asm) (by k_asm) (by k_asm) (by k_asm) (by first | exact rfl | assumption) (by ktr_room) (by ktr_units) ?_
  rintro r7 nw7 h7 tk7 F7 N7 (⟨i9, hi9, hsi, hmin9, ata, n, u1, u3, u5, u6, rfl, rfl, z1, z2⟩ | ⟨hnone, u1, u6, rfl, rfl⟩)
  focus
    try k_sweep
    have hL := LeftOk.start SS_len hp8 hpw8 (first_all hp8 hpw8 hi9 hmin9)
    rw [List.drop_zero] at hL
    have N10 := news_front (news_front (news_front N7 3 rfl) 3 rfl) 2 rfl
    simp only [List.eraseIdx] at N10
    refine cutw (TnD z2law_s1.heap z2law_s1.heap.objs.size o dx st c kl H T tm tac tf ns d i ro (fun z => if z = Str.ofString "taken" then some (Value.ref tl) else if z = Str.ofString "content" then some (Value.ref c) else mb z) z2law_s1) (TnD.mk (vk := vk) F7 hmb N10 (List.mem_cons_of_mem _ hL1) ho1 ⟨_, ho2⟩ ho3 (List.mem_cons_of_mem _ hst) (List.mem_cons_of_mem _ hc) (List.mem_cons_of_mem _ ho) (List.mem_cons_of_mem _ hkl) (keys_cons hk) (stamps_cons hS) hvc hlen hok hi (List.mem_cons_of_mem _ hD8) (hX.mono fun _ _ q => q.mono fun p hp => List.mem_cons_of_mem _ hp) hXl (.inr ⟨_, _, _, _, _, List.mem_cons_self, hL, rfl, rfl⟩) (fun p hp => List.mem_cons_of_mem _ (hsub p hp)) n2 n3 (List.forall_mem_cons.mpr ⟨z1, y1⟩) (List.forall_mem_cons.mpr ⟨Ne.symm (z2 (_, o2) List.mem_cons_self), y2⟩) (List.forall_mem_cons.mpr ⟨Ne.symm (z2 (_, o3) (List.mem_cons_of_mem _ List.mem_cons_self)), y3⟩)) ?_
  rotate_left
  try k_sweep
  have hc0 : cs = [] := by
    cases cs with
    | nil => rfl
    | cons b r =>
      have := hnone 0 (Nat.succ_pos _)
      rw [sat_all] at this
      cases this
  have hx0 : (p8.map fun j => row3 (lawKey d i) (cs.getD j #[], (SS cs.length).getD j 0)) = [] := by
    have h1 := hp8.length_eq
    rw [List.length_range, hc0] at h1
    rw [List.eq_nil_of_length_eq_zero h1]; rfl
  refine cutw (TnD z2law_s1.heap z2law_s1.heap.objs.size o dx st c kl H T tm tac tf ns d i ro (fun z => if z = Str.ofString "taken" then some (Value.ref tl) else if z = Str.ofString "content" then some (Value.ref c) else mb z) z2law_s1) (TnD.mk (vk := vk) F7 hmb N7 hL1 ho1 ⟨_, ho2⟩ ho3 hst hc ho hkl hk hS hvc hlen hok hi hD8 hX hXl (.inl hx0) hsub n2 n3 y1 y2 y3) ?_
  · rename_i z80law_s8 z81law_s8
    clear z80law_s8 z81law_s8 h tk at3 D8 wh nw rl ac vc vk ys rv cs top o1 o2 o3 t8 nst nc nk c8 p8 RR mb' F0 hmb N0 hL1 ho1 ho2 ho3 hst hc ho hkl hk hS hvc hlen hok hi hD8 hX hp8 hpw8 hsub n2 n3 y1 y2 y3 m2 m3 hsz hXl h7 tk7 F7 hnone u1 u6 N7 hc0 hx0
    revert z0law_s1 z1law_s1 z2law_s1 z3law_s1 z4law_s1 z5law_s1 z6law_s1 z7law_s1 z8law_s1 z9law_s1 z10law_s1 z11law_s1 z12law_s1 z13law_s1 z14law_s1 z15law_s1 z16law_s1 z17law_s1 z18law_s1 z19law_s1 z20law_s1 z21law_s1 z22law_s1 z23law_s1 z24law_s1 z25law_s1 z26law_s1 z27law_s1 z28law_s1 z29law_s1 z30law_s1 z31law_s1 z32law_s1 z33law_s1 z34law_s1 z35law_s1 z36law_s1 z37law_s1 z39law_s1 z40law_s1 z41law_s1 z43law_s1 z44law_s1 z45law_s1 z46law_s1 z47law_s1 z48law_s1 z49law_s1 z50law_s1 z51law_s1 z52law_s1 z53law_s1 z54law_s1 z55law_s1 z56law_s1 z57law_s1 z58law_s1 z57law_s3 z66law_s1 z68law_s1 z69law_s1 z72law_s1 o dx st c tl kl mb H T d tm tac tf ns i ro h3 tk3
    exact hP0.out
  · rename_i z80law_s8 z81law_s8
    clear z80law_s8 z81law_s8 h tk at3 D8 wh nw rl ac vc vk ys rv cs top o1 o2 o3 t8 nst nc nk c8 p8 RR mb' F0 hmb N0 hL1 ho1 ho2 ho3 hst hc ho hkl hk hS hvc hlen hok hi hD8 hX hp8 hpw8 hsub n2 n3 y1 y2 y3 m2 m3 hsz hXl h7 tk7 F7 i9 hi9 hsi hmin9 ata n u1 u3 u5 u6 N7 z1 z2 hL N10
    revert z0law_s1 z1law_s1 z2law_s1 z3law_s1 z4law_s1 z5law_s1 z6law_s1 z7law_s1 z8law_s1 z9law_s1 z10law_s1 z11law_s1 z12law_s1 z13law_s1 z14law_s1 z15law_s1 z16law_s1 z17law_s1 z18law_s1 z19law_s1 z20law_s1 z21law_s1 z22law_s1 z23law_s1 z24law_s1 z25law_s1 z26law_s1 z27law_s1 z28law_s1 z29law_s1 z30law_s1 z31law_s1 z32law_s1 z33law_s1 z34law_s1 z35law_s1 z36law_s1 z37law_s1 z39law_s1 z40law_s1 z41law_s1 z43law_s1 z44law_s1 z45law_s1 z46law_s1 z47law_s1 z48law_s1 z49law_s1 z50law_s1 z51law_s1 z52law_s1 z53law_s1 z54law_s1 z55law_s1 z56law_s1 z57law_s1 z58law_s1 z57law_s3 z66law_s1 z68law_s1 z69law_s1 z72law_s1 o dx st c tl kl mb H T d tm tac tf ns i ro h3 tk3
    exact hP0.out⟩
section
local macro_rules | `(tactic| walk_at "compareOp NotEq ref ref") => `(tactic| refine stop_ ?_)
local macro_rules | `(tactic| walk_at "my pad") => `(tactic| fail)
theorem law_s9 : law_s8.1 := by
  w_top off
  unfold law_s8
  intro z0law_s1 z1law_s1 z2law_s1 z3law_s1 z4law_s1 z5law_s1 z6law_s1 z7law_s1 z8law_s1 z9law_s1 z10law_s1 z11law_s1 z12law_s1 z13law_s1 z14law_s1 z15law_s1 z16law_s1 z17law_s1 z18law_s1 z19law_s1 z20law_s1 z21law_s1 z22law_s1 z23law_s1 z24law_s1 z25law_s1 z26law_s1 z27law_s1 z28law_s1 z29law_s1 z30law_s1 z31law_s1 z32law_s1 z33law_s1 z34law_s1 z35law_s1 z36law_s1 z37law_s1 z39law_s1 z40law_s1 z41law_s1 z43law_s1 z44law_s1 z45law_s1 z46law_s1 z47law_s1 z48law_s1 z49law_s1 z50law_s1 z51law_s1 z52law_s1 z53law_s1 z54law_s1 z55law_s1 z56law_s1 z57law_s1 z58law_s1 z57law_s3 z66law_s1 z68law_s1 z69law_s1 z72law_s1 o dx st c tl kl mb H T d tm tac tf ns i ro h3 tk3
  rintro s' @⟨h, tk, at3, D8, wh, nw, rl, ac, vc, vk, ys, rv, cs, top, o1, o2, o3, nst, nc, nk, c8, X, RR, mb', F0, hmb, N0, hL1, ho1, ⟨v2, ho2⟩, ⟨v3, ho3⟩, hst, hc, ho, hkl, hk, hS, hvc, hlen, hok, hi, hD8, hX, hXl, hgo, hsub, n2, n3, y1, y2, y3⟩
  have m2 := Ne.symm n2
  have m3 := Ne.symm n3
  have hsz : ∀ b ∈ cs, b.size < 10000 := fun b hb => by rw [hok.size b hb]; decide
  have hrx := hX.len
  have hrl : rv.length < 10000 := by omega
  k_steps
  walk_at "my compU"
  walk_at "my ledgerU"
  intro g9
  have hb1 : ∀ p ∈ (z2law_s1.heap.objs.size + 1 + 1, o2) :: (z2law_s1.heap.objs.size + 1 + 1 + 1, o3) :: RR, p.1 ≠ dx := List.forall_mem_cons.mpr ⟨m2, List.forall_mem_cons.mpr ⟨m3, y1⟩⟩
  have hRb : ∀ p ∈ RR, p ∈ (z2law_s1.heap.objs.size + 1 + 1, o2) :: (z2law_s1.heap.objs.size + 1 + 1 + 1, o3) :: RR := fun p hp => List.mem_cons_of_mem _ (List.mem_cons_of_mem _ hp)
  refine comp_G (RdJ dx c kl st H T tm tac tf ns d i cs X ((z2law_s1.heap.objs.size + 1 + 1, o2) :: (z2law_s1.heap.objs.size + 1 + 1 + 1, o3) :: RR)) ?_ ?_ _ 0 [] _ (Nat.zero_add _) ?_
  rotate_left
  · rintro j v ys1 nw1 I oI C oC D m9 h9 tk9 E9 hj hPj ⟨hys, at4, nwv, rl4, wh4, ex, rfl, hex, hrd⟩ hC hx F9 N9 off ne
    rw [List.size_toArray, hrx] at hj
    obtain ⟨pos, q1, q2, q4, na, hat, hL, rfl, rfl⟩ := hrd hj
    clear hrd
    generalize hEB : ex ++ ((z2law_s1.heap.objs.size + 1 + 1, o2) :: (z2law_s1.heap.objs.size + 1 + 1 + 1, o3) :: RR) = EB at N9 off hat
    have hbE : ∀ p ∈ (z2law_s1.heap.objs.size + 1 + 1, o2) :: (z2law_s1.heap.objs.size + 1 + 1 + 1, o3) :: RR, p ∈ EB := fun p hp => hEB ▸ List.mem_append_right _ hp
    have hE1 : ∀ p ∈ EB, p.1 ≠ dx := hEB ▸ all_app hex hb1
    have od := off.mem (dx, _) List.mem_cons_self
    have ia := Ne.symm od.1
    have ib := Ne.symm od.2.1
    have ic := Ne.symm od.2.2
    dsimp only at od ia ib ic
    have oE : ∀ p ∈ EB, p.1 ≠ I ∧ p.1 ≠ C ∧ p.1 ≠ D := fun p hp => off.mem p (List.mem_cons_of_mem _ hp)
    have hL1' := hbE _ (hRb _ hL1)
    have hd : X.drop j = X[j] :: X.drop (j + 1) := List.drop_eq_getElem_cons hj
    have mR : ∀ p ∈ RR, p ∈ (I, oI) :: (C, oC) :: (D, LCg.lst ys1) :: EB := fun p hp => List.mem_cons_of_mem _ (List.mem_cons_of_mem _ (List.mem_cons_of_mem _ (hbE _ (hRb p hp))))
    rw [hd] at hL
    k_steps
    refine Stop.go ?_
    have Nf := news_front N9 3 rfl
    simp only [List.eraseIdx] at Nf
    refine' Sp.use (read_next_c (rest := (I, oI) :: (C, oC) :: (D, LCg.lst ys1) :: EB) (ks := [(0, 2, false), (2, 1, true), (3, 1, d)]) (k := lawKey d i) (cs := cs) (S := SS cs.length) (wi := (i : Int)) (pos := pos) (an := na) (nwb := false) (mR _ ho) (List.forall_mem_cons.mpr ⟨ia, List.forall_mem_cons.mpr ⟨ib, List.forall_mem_cons.mpr ⟨ic, hE1⟩⟩⟩) (mR _ hkl) (keys_sub hk mR) (by omega) (by omega) (lawKey_get hi) (mR _ hc) hvc (mR _ hst) (stamps_sub hS mR) SS_len SS_nodup (by omega) hsz (List.mem_cons_of_mem _ (List.mem_cons_of_mem _ (List.mem_cons_of_mem _ hat))) (by decide) (by decide)) (by k_asm) (by k_asm) (by k_asm) Nf (by k_asm) (by first | exact rfl | assumption) (by ktr_room) (by ktr_units) ?_
    rintro r1 nw2 g1 tg1 Fg1 Ng1 (⟨hb9, _⟩ | ⟨_, hno, _⟩ | ⟨_, i9, hn9, a, n, ata2, n2', u1, u2, u3, u5, u6, rfl, rfl, z1, z2, z3, z4, z5⟩)
    · cases hb9
    · exact absurd hno hL.cons_no
    · obtain ⟨hL2, hrec⟩ := hL.turn SS_len hok hn9
      try k_sweep
      k_steps
      rename News _ _ _ _ => N8
      refine LCg.CompEnd.intro (by k_asm) N8 ((dx, _) :: (ata2, tupOf #[.bytes (fat (lawKey d i) cs (SS cs.length) (i : Int) i9).1 u3, .int (fat (lawKey d i) cs (SS cs.length) (i : Int) i9).2 u5] n2') :: EB) ?sb (LCg.Off3.of (List.forall_mem_cons.mpr ⟨od, List.forall_mem_cons.mpr ⟨⟨Ne.symm (z5 (I, oI) List.mem_cons_self), Ne.symm (z5 (C, oC) (List.mem_cons_of_mem _ List.mem_cons_self)), Ne.symm (z5 (D, _) (List.mem_cons_of_mem _ (List.mem_cons_of_mem _ List.mem_cons_self)))⟩, oE⟩⟩)) (srcAt_led (List.mem_cons_of_mem _ (List.mem_cons_of_mem _ (hbE _ (hRb _ hD8))))) ⟨?ja, ata2, .bool false, .int ((SS cs.length).getD i9 0) u6, .int (i : Int) q4, (ata2, tupOf #[.bytes (fat (lawKey d i) cs (SS cs.length) (i : Int) i9).1 u3, .int (fat (lawKey d i) cs (SS cs.length) (i : Int) i9).2 u5] n2') :: ex, by rw [List.cons_append, hEB], List.forall_mem_cons.mpr ⟨z2, hex⟩, fun _ => ⟨_, u3, u5, q4, n2', List.mem_cons_self, hL2, rfl, rfl⟩⟩
      (case sb => walk_at "my subs")
      (case ja => (rw [List.take_add_one, List.getElem?_eq_getElem hj, List.map_append]; exact hys.append (All2.one ⟨u2, congrArg (Value.bytes · u2) hrec.symm⟩)))
  · exact ⟨All2.nil, at3, nw, rl, wh, [], rfl, (fun _ h => nomatch h), fun hj => by
      rcases hgo with q | ⟨pos, q1, q2, q4, na, hat, hL, e1, e2⟩
      · rw [q] at hj; exact absurd hj (Nat.not_lt_zero _)
      · exact ⟨pos, q1, q2, q4, na, hRb _ hat, by rw [List.drop_zero]; exact hL, e1, e2⟩⟩
  rintro ys1 nw1 ⟨hys, at4, nwv, rl4, wh4, ex, rfl, hex, -⟩ D9 h9 tk9 F9 N9 o9
  rw [List.size_toArray, hrx, List.take_length] at hys
  generalize hEB : ex ++ ((z2law_s1.heap.objs.size + 1 + 1, o2) :: (z2law_s1.heap.objs.size + 1 + 1 + 1, o3) :: RR) = EB at N9 o9
  have hbE : ∀ p ∈ (z2law_s1.heap.objs.size + 1 + 1, o2) :: (z2law_s1.heap.objs.size + 1 + 1 + 1, o3) :: RR, p ∈ EB := fun p hp => hEB ▸ List.mem_append_right _ hp
  have hE1 : ∀ p ∈ EB, p.1 ≠ dx := hEB ▸ all_app hex hb1
  have hD8' := hbE _ (hRb _ hD8)
  have hXE := hX.mono fun _ _ q => q.mono fun p hp => hbE _ (hRb p hp)
  refine stop_ ?_
  walk_at "my compU"
  walk_at "my ledgerU"
  intro g8
  refine comp_map (R' := IsB) (fun x : Row3 => x.2.2) hXE (srcAt_led (by k_mem)) ?_ ?_
  rotate_left
  · rintro j x v nx C oC m₂ h7 tk7 E' hxj hrow hC hx hm hsub7 F7 N7
    obtain ⟨ra, rt1, rt2, rt3, rn9, rfl, hrm⟩ := hrow
    have hrm' := hsub7 _ (List.mem_cons_of_mem _ (List.mem_cons_of_mem _ hrm))
    k_steps
    exact ⟨_, _, rfl, by assumption, newsSub (by k_asm) (by walk_at "my sub"), _, rfl⟩
  intro ys2 hys2 D2 h7 tk7 F7 N7 o7
  k_steps
  refine Stop.go ?_
  refine' ne_bys (by k_asm) ?q1 ?q2 hys hys2 (by ktr_units) ?_
  (case q1 => k_mem)
  (case q2 => k_mem)
  rw [show (!decide ((X.map fun x => x.2.2) = X.map fun x => x.2.2)) = false by simp]
  k_steps
  rename News _ _ _ _ => N8
  refine' TEnd.next (mu := [(dx, _), (z2law_s1.heap.objs.size + 1 + 1, o2), (z2law_s1.heap.objs.size + 1 + 1 + 1, o3)]) (by assumption) ?tN (Apart.cons (fun q hq => y1 q (hsub q hq)) (Apart.cons (fun q hq => y2 q (hsub q hq)) (Apart.cons (fun q hq => y3 q (hsub q hq)) Apart.nil))) ?tJ ?tm
  (case tN => exact newsSub N8 (fun p hp => by
    simp only [List.cons_append, List.nil_append] at hp
    rcases List.mem_cons.mp hp with rfl | hp
    · walk_at "my mem"
    · have hp' : p ∈ EB := by
        rcases List.mem_cons.mp hp with rfl | hp
        · exact hbE _ List.mem_cons_self
        · rcases List.mem_cons.mp hp with rfl | hp
          · exact hbE _ (List.mem_cons_of_mem _ List.mem_cons_self)
          · exact hbE _ (hRb _ (hsub _ hp))
      walk_at "my in"))
  (case tJ => exact KJ.mk ⟨_, ho2⟩ ⟨_, ho3⟩)
  (case tm => exact fun z h1 h2 h3 _ => by simp only [h1, if_false]; exact hmb z h1 h2 h3)
end
end Mine
theorem PySem.Challenge.cw_pc0127_02_holds : PySem.Challenge.rw_pc0127_02.Holds :=
  Mine.law_s1.2 ⟨Mine.law_s2.2 ⟨Mine.law_s3.2 ⟨Mine.law_s4.2 ⟨Mine.law_s5.2 ⟨Mine.law_s6.2 ⟨Mine.law_s7.2 ⟨Mine.law_s8.2 ⟨Mine.law_s9⟩⟩⟩⟩⟩⟩⟩⟩
