import PyProof.Rows.All
import Wide.All
import OpenK.AllK
import Wide.FinOn
import Lean
import PySem.Challenge.RW_pc0127_01
open PySem PySem.W PyProof.Rows
set_option compiler.extract_closed false
set_option Elab.async false
set_option maxRecDepth 100000
set_option maxHeartbeats 8000000
namespace Mine
section

abbrev By := Array UInt8
abbrev Led := List (Addr × Obj)

/-! ## the order of bytes -/
theorem ord_self : ∀ a : List UInt8, Builtin.Bytes.order a a = .eq
  | [] => rfl
  | x :: a => by
    have h : ¬ x < x := UInt8.lt_irrefl x
    simp [Builtin.Bytes.order, h, ord_self a]
theorem ord_eq {a b : List UInt8} (h : Builtin.Bytes.order a b = .eq) : a = b := by
  have h2 := order_eq a b
  rw [h] at h2
  exact eq_of_beq h2.symm
theorem ord_swap : ∀ a b : List UInt8, Builtin.Bytes.order b a = (Builtin.Bytes.order a b).swap
  | [], [] | [], _ :: _ | _ :: _, [] => rfl
  | x :: a, y :: b => by
    simp only [Builtin.Bytes.order]
    by_cases h1 : x < y
    · have h2 : ¬ y < x := fun q => absurd (UInt8.lt_trans h1 q) (UInt8.lt_irrefl _)
      simp [h1, h2]
    · by_cases h2 : y < x
      · simp [h1, h2]
      · simp [h1, h2, ord_swap a b]
theorem ord_trans : ∀ {a b c : List UInt8}, Builtin.Bytes.order a b = .lt → Builtin.Bytes.order b c = .lt → Builtin.Bytes.order a c = .lt
  | [], [], _, h, _ => by simp [Builtin.Bytes.order] at h
  | [], _ :: _, [], _, h => by simp [Builtin.Bytes.order] at h
  | [], _ :: _, _ :: _, _, _ => rfl
  | _ :: _, [], _, h, _ => by simp [Builtin.Bytes.order] at h
  | _ :: _, _ :: _, [], _, h => by simp [Builtin.Bytes.order] at h
  | x :: a, y :: b, z :: c, h, k => by
    simp only [Builtin.Bytes.order] at h k ⊢
    by_cases h1 : x < y
    · by_cases k1 : y < z
      · simp [UInt8.lt_trans h1 k1]
      · by_cases k2 : z < y
        · simp [k1, k2] at k
        · have e : y = z := UInt8.le_antisymm (UInt8.not_lt.mp k2) (UInt8.not_lt.mp k1)
          subst e; simp [h1]
    · by_cases h2 : y < x
      · simp [h1, h2] at h
      · have e : x = y := UInt8.le_antisymm (UInt8.not_lt.mp h2) (UInt8.not_lt.mp h1)
        subst e
        by_cases k1 : x < z
        · simp [k1]
        · by_cases k2 : z < x
          · simp [k1, k2] at k
          · simp only [UInt8.lt_irrefl, if_false, gt_iff_lt] at h
            simp only [k1, k2, if_false, gt_iff_lt] at k ⊢
            exact ord_trans h k
/-- a < b on bytes -/
def blt (a b : By) : Bool := Builtin.Bytes.order a.toList b.toList == .lt
theorem blt_irrefl (a : By) : blt a a = false := by simp [blt, ord_self]
theorem blt_trans {a b c : By} (h : blt a b = true) (k : blt b c = true) : blt a c = true := by
  simp only [blt, beq_iff_eq] at h k ⊢
  exact ord_trans h k
theorem blt_asymm {a b : By} (h : blt a b = true) : blt b a = false := by
  simp only [blt, beq_iff_eq] at h ⊢
  rw [ord_swap, h]; rfl
theorem blt_total {a b : By} (h : blt a b = false) (k : blt b a = false) : a = b := by
  simp only [blt] at h k
  rw [ord_swap a.toList b.toList] at k
  refine Array.toList_inj.mp (ord_eq ?_)
  cases e : Builtin.Bytes.order a.toList b.toList with
  | eq => rfl
  | lt => rw [e] at h; exact absurd h (by decide)
  | gt => rw [e] at k; exact absurd k (by decide)
theorem hold_lt (a b : By) : Builtin.Bytes.holds "__lt__" (Builtin.Bytes.order a.toList b.toList) = blt a b := rfl
theorem hold_gt (a b : By) : Builtin.Bytes.holds "__gt__" (Builtin.Bytes.order a.toList b.toList) = blt b a := by
  show (Builtin.Bytes.order a.toList b.toList == .gt) = (Builtin.Bytes.order b.toList a.toList == .lt)
  rw [ord_swap a.toList b.toList]
  cases Builtin.Bytes.order a.toList b.toList <;> rfl
theorem hold_le (a b : By) : Builtin.Bytes.holds "__le__" (Builtin.Bytes.order a.toList b.toList) = !blt b a := by
  show (Builtin.Bytes.order a.toList b.toList != .gt) = !(Builtin.Bytes.order b.toList a.toList == .lt)
  rw [ord_swap a.toList b.toList]
  cases Builtin.Bytes.order a.toList b.toList <;> rfl
theorem hold_ge (a b : By) : Builtin.Bytes.holds "__ge__" (Builtin.Bytes.order a.toList b.toList) = !blt a b := by
  show (Builtin.Bytes.order a.toList b.toList != .lt) = !(Builtin.Bytes.order a.toList b.toList == .lt)
  cases Builtin.Bytes.order a.toList b.toList <;> rfl
theorem by_beq (a b : By) : (a.toList == b.toList) = decide (a = b) := by
  by_cases h : a = b
  · subst h; simp
  · have : a.toList ≠ b.toList := fun e => h (Array.toList_inj.mp e)
    simp [h]

/-! ## the comparisons of bytes -/
section
theorem slot_b_lt : Slot "bytes" (cmpInfo .Lt).2.1 "bytes.__lt__" :=
  .of (owner := "bytes") (n := "__lt__") (by rw [typeLookup_type, builtinLookup_eq_fast]; kernel_rfl) (by decide +kernel) (by decide +kernel) (by decide +kernel)
    (by first | exact .inl (by decide +kernel) | exact .inr (by decide +kernel)) (by rw [isSubtype_type]; kernel_rfl)
theorem entry_b_lt : entryFor table "bytes.__lt__" = some Builtin.«bytes.__lt__» := entryFor_of_tree (by kernel_rfl)
theorem args_b_lt (a b : Value) : argsOk "bytes.__lt__" ⟨[a, b], []⟩ := by
  unfold argsOk; rw [signature?_of (id := "bytes.__lt__") (n := ['_', '_', 't', 'l', '_', '_']) (o := ['s', 'e', 't', 'y', 'b']) (by kernel_rfl) FB.owner_bytes]; kernel_rfl
theorem slot_b_le : Slot "bytes" (cmpInfo .LtE).2.1 "bytes.__le__" :=
  .of (owner := "bytes") (n := "__le__") (by rw [typeLookup_type, builtinLookup_eq_fast]; kernel_rfl) (by decide +kernel) (by decide +kernel) (by decide +kernel)
    (by first | exact .inl (by decide +kernel) | exact .inr (by decide +kernel)) (by rw [isSubtype_type]; kernel_rfl)
theorem entry_b_le : entryFor table "bytes.__le__" = some Builtin.«bytes.__le__» := entryFor_of_tree (by kernel_rfl)
theorem args_b_le (a b : Value) : argsOk "bytes.__le__" ⟨[a, b], []⟩ := by
  unfold argsOk; rw [signature?_of (id := "bytes.__le__") (n := ['_', '_', 'e', 'l', '_', '_']) (o := ['s', 'e', 't', 'y', 'b']) (by kernel_rfl) FB.owner_bytes]; kernel_rfl
theorem slot_b_gt : Slot "bytes" (cmpInfo .Gt).2.1 "bytes.__gt__" :=
  .of (owner := "bytes") (n := "__gt__") (by rw [typeLookup_type, builtinLookup_eq_fast]; kernel_rfl) (by decide +kernel) (by decide +kernel) (by decide +kernel)
    (by first | exact .inl (by decide +kernel) | exact .inr (by decide +kernel)) (by rw [isSubtype_type]; kernel_rfl)
theorem entry_b_gt : entryFor table "bytes.__gt__" = some Builtin.«bytes.__gt__» := entryFor_of_tree (by kernel_rfl)
theorem args_b_gt (a b : Value) : argsOk "bytes.__gt__" ⟨[a, b], []⟩ := by
  unfold argsOk; rw [signature?_of (id := "bytes.__gt__") (n := ['_', '_', 't', 'g', '_', '_']) (o := ['s', 'e', 't', 'y', 'b']) (by kernel_rfl) FB.owner_bytes]; kernel_rfl
theorem slot_b_ge : Slot "bytes" (cmpInfo .GtE).2.1 "bytes.__ge__" :=
  .of (owner := "bytes") (n := "__ge__") (by rw [typeLookup_type, builtinLookup_eq_fast]; kernel_rfl) (by decide +kernel) (by decide +kernel) (by decide +kernel)
    (by first | exact .inl (by decide +kernel) | exact .inr (by decide +kernel)) (by rw [isSubtype_type]; kernel_rfl)
theorem entry_b_ge : entryFor table "bytes.__ge__" = some Builtin.«bytes.__ge__» := entryFor_of_tree (by kernel_rfl)
theorem args_b_ge (a b : Value) : argsOk "bytes.__ge__" ⟨[a, b], []⟩ := by
  unfold argsOk; rw [signature?_of (id := "bytes.__ge__") (n := ['_', '_', 'e', 'g', '_', '_']) (o := ['s', 'e', 't', 'y', 'b']) (by kernel_rfl) FB.owner_bytes]; kernel_rfl
theorem gives_b_lt (b c : By) (t u : Tok) : Gives (Builtin.«bytes.__lt__» ⟨[.bytes b t, .bytes c u], []⟩) (.val (.bool (blt b c))) := by
  refine .of_wp fun M A E s Q hq => ?_
  show wpAny M A (isInstance (.bytes c u) (.type "bytes") >>= fun r => _) _ E s
  refine wpAny_bind (wpAny_isInstance (typeIs_bytes s c u) F.sub_bytes_bytes ?_)
  exact wpAny_pure ⟨_, rfl, by rw [← hold_lt] at hq; exact hq⟩
theorem gives_b_le (b c : By) (t u : Tok) : Gives (Builtin.«bytes.__le__» ⟨[.bytes b t, .bytes c u], []⟩) (.val (.bool (!blt c b))) := by
  refine .of_wp fun M A E s Q hq => ?_
  show wpAny M A (isInstance (.bytes c u) (.type "bytes") >>= fun r => _) _ E s
  refine wpAny_bind (wpAny_isInstance (typeIs_bytes s c u) F.sub_bytes_bytes ?_)
  exact wpAny_pure ⟨_, rfl, by rw [← hold_le] at hq; exact hq⟩
theorem gives_b_gt (b c : By) (t u : Tok) : Gives (Builtin.«bytes.__gt__» ⟨[.bytes b t, .bytes c u], []⟩) (.val (.bool (blt c b))) := by
  refine .of_wp fun M A E s Q hq => ?_
  show wpAny M A (isInstance (.bytes c u) (.type "bytes") >>= fun r => _) _ E s
  refine wpAny_bind (wpAny_isInstance (typeIs_bytes s c u) F.sub_bytes_bytes ?_)
  exact wpAny_pure ⟨_, rfl, by rw [← hold_gt] at hq; exact hq⟩
theorem gives_b_ge (b c : By) (t u : Tok) : Gives (Builtin.«bytes.__ge__» ⟨[.bytes b t, .bytes c u], []⟩) (.val (.bool (!blt b c))) := by
  refine .of_wp fun M A E s Q hq => ?_
  show wpAny M A (isInstance (.bytes c u) (.type "bytes") >>= fun r => _) _ E s
  refine wpAny_bind (wpAny_isInstance (typeIs_bytes s c u) F.sub_bytes_bytes ?_)
  exact wpAny_pure ⟨_, rfl, by rw [← hold_ge] at hq; exact hq⟩
variable {prog : Program} {w : World} {A : Around} {E : Value → Shared → Prop} {s : Shared} {b c : By} {t u : Tok} {Q : Value → Shared → Prop}
theorem lt_by (h : Q (.bool (blt b c)) s) : wpAny (model prog w) A (compareOp .Lt (.bytes b t) (.bytes c u)) Q E s :=
  compareOp_gives (op := .Lt) (typeIs_bytes s b t) (typeIs_bytes s c u) slot_b_lt entry_b_lt (args_b_lt _ _) (gives_b_lt b c t u) (fun e => nomatch e) h
theorem le_by (h : Q (.bool (!blt c b)) s) : wpAny (model prog w) A (compareOp .LtE (.bytes b t) (.bytes c u)) Q E s :=
  compareOp_gives (op := .LtE) (typeIs_bytes s b t) (typeIs_bytes s c u) slot_b_le entry_b_le (args_b_le _ _) (gives_b_le b c t u) (fun e => nomatch e) h
theorem gt_by (h : Q (.bool (blt c b)) s) : wpAny (model prog w) A (compareOp .Gt (.bytes b t) (.bytes c u)) Q E s :=
  compareOp_gives (op := .Gt) (typeIs_bytes s b t) (typeIs_bytes s c u) slot_b_gt entry_b_gt (args_b_gt _ _) (gives_b_gt b c t u) (fun e => nomatch e) h
theorem ge_by (h : Q (.bool (!blt b c)) s) : wpAny (model prog w) A (compareOp .GtE (.bytes b t) (.bytes c u)) Q E s :=
  compareOp_gives (op := .GtE) (typeIs_bytes s b t) (typeIs_bytes s c u) slot_b_ge entry_b_ge (args_b_ge _ _) (gives_b_ge b c t u) (fun e => nomatch e) h
theorem eq_by (h : Q (.bool (decide (b = c))) s) : wpAny (model prog w) A (compareOp .Eq (.bytes b t) (.bytes c u)) Q E s :=
  eq_bytes (by rw [by_beq]; exact h)
theorem ne_by (h : Q (.bool (!decide (b = c))) s) : wpAny (model prog w) A (compareOp .NotEq (.bytes b t) (.bytes c u)) Q E s :=
  ne_bytes (by rw [bne, by_beq]; exact h)
/-- one bytes below another, as sort asks it -/
theorem oneLt_by {Q : Bool → Shared → Prop} (h : Q (blt b c) s) : wpAny (model prog w) A (oneLt' true (.bytes b t) (.bytes c u)) Q E s := by
  rw [oneLt'_eq]
  simp only [if_true]
  refine wpAny_bind (wpAny_cRoomFor_byValue rfl ?_)
  refine wpAny_bind (wpAny_callSpecialIfBound?_slot (typeIs_bytes s b t) slot_b_lt (wpAny_call_entry slot_b_lt (typeIs_bytes s b t) entry_b_lt ?_ (args_b_lt _ _)))
  show wpAny _ _ (Builtin.«bytes.__lt__» ⟨[.bytes b t, .bytes c u], []⟩) _ _ s
  show wpAny _ _ (isInstance (.bytes c u) (.type "bytes") >>= fun r => _) _ _ s
  refine wpAny_bind (wpAny_isInstance (typeIs_bytes s c u) F.sub_bytes_bytes ?_)
  exact wpAny_pure ⟨_, rfl, wpAny_truthy_bool h⟩
end

end
section

/-! ## the sort of fewer than 64 items, its questions answered by a strict order -/
noncomputable def Run {α : Type} (lt : Nat → Nat → Bool) (n : Nat) : KasT α → (α → Prop) → Prop
  | .ret a, Q => Q a
  | .ask i j k, Q => i < n ∧ j < n ∧ i ≠ j ∧ Run lt n (k (lt i j)) Q
theorem Run_mono {α : Type} {lt : Nat → Nat → Bool} {n : Nat} {Q Q' : α → Prop} (hq : ∀ a, Q a → Q' a) : ∀ (t : KasT α), Run lt n t Q → Run lt n t Q'
  | .ret a, h => hq a h
  | .ask _ _ k, h => ⟨h.1, h.2.1, h.2.2.1, Run_mono hq (k _) h.2.2.2⟩
theorem Run_bind {α β : Type} {lt : Nat → Nat → Bool} {n : Nat} {f : α → KasT β} {Q : β → Prop} : ∀ (t : KasT α), Run lt n t (fun a => Run lt n (f a) Q) → Run lt n (t.bind f) Q
  | .ret _, h => h
  | .ask _ _ k, h => ⟨h.1, h.2.1, h.2.2.1, Run_bind (k _) h.2.2.2⟩
theorem Run_wp {α : Type} {lt : Nat → Nat → Bool} {n : Nat} {cmp : Nat → Nat → (Bool → Shared → Prop) → Shared → Prop} {s : Shared} {G : α → Shared → Prop}
    (hc : ∀ i j C, i < n → j < n → i ≠ j → C (lt i j) s → cmp i j C s) : ∀ (t : KasT α), Run lt n t (fun a => G a s) → t.kasWp cmp G s
  | .ret _, h => h
  | .ask i j k, h => hc i j _ h.1 h.2.1 h.2.2.1 (Run_wp hc (k _) h.2.2.2)
structure Ord (n : Nat) (lt : Nat → Nat → Bool) : Prop where
  trans : ∀ a b c, lt a b = true → lt b c = true → lt a c = true
  asymm : ∀ a b, lt a b = true → lt b a = false
  total : ∀ a b, a < n → b < n → a ≠ b → lt a b = true ∨ lt b a = true
structure PA (n : Nat) (p : Array Nat) : Prop where
  perm : p.toList.Perm (List.range n)
theorem PA.size {n : Nat} {p : Array Nat} (h : PA n p) : p.size = n := by
  have := h.perm.length_eq
  simpa using this
theorem PA.getD {n : Nat} {p : Array Nat} (h : PA n p) {i : Nat} (hi : i < n) : p[i]? = some (p.getD i 0) := by
  have := h.size
  simp [Array.getD, this, hi]
theorem PA.lt {n : Nat} {p : Array Nat} (h : PA n p) {i : Nat} (hi : i < n) : p.getD i 0 < n := by
  have h1 := h.getD hi
  have h2 : p.getD i 0 ∈ p.toList := by
    have : p.toList[i]? = some (p.getD i 0) := by simpa using h1
    exact List.mem_of_getElem? this
  exact List.mem_range.mp (h.perm.mem_iff.mp h2)
theorem PA.ne {n : Nat} {p : Array Nat} (h : PA n p) {i j : Nat} (hi : i < n) (hj : j < n) (hij : i ≠ j) : p.getD i 0 ≠ p.getD j 0 := by
  intro e
  have nd : p.toList.Nodup := h.perm.nodup_iff.mpr List.nodup_range
  have h1 : p.toList[i]? = some (p.getD i 0) := by simpa using h.getD hi
  have h2 : p.toList[j]? = some (p.getD j 0) := by simpa using h.getD hj
  have hl : i < p.toList.length := by rw [Array.length_toList, h.size]; exact hi
  exact hij ((List.getElem?_inj hl nd).mp (by rw [h1, h2, e]))
theorem PA.of_perm {n : Nat} {p q : Array Nat} (h : PA n p) (k : q.Perm p) : PA n q := ⟨(Array.perm_iff_toList_perm.mp k).trans h.perm⟩
def Sd (lt : Nat → Nat → Bool) (p : Array Nat) (m : Nat) : Prop := ∀ i j, i < j → j < m → lt (p.getD i 0) (p.getD j 0) = true
def Dd (lt : Nat → Nat → Bool) (p : Array Nat) (m : Nat) : Prop := ∀ i j, i < j → j < m → lt (p.getD j 0) (p.getD i 0) = true
section
variable {n : Nat} {lt : Nat → Nat → Bool} {p : Array Nat}
theorem Sd.snoc (O : Ord n lt) {m : Nat} (hm : 1 ≤ m) (h : Sd lt p m) (k : lt (p.getD (m - 1) 0) (p.getD m 0) = true) : Sd lt p (m + 1) := by
  intro i j hij hj
  by_cases e : j = m
  · subst e
    by_cases e2 : i = j - 1
    · subst e2; exact k
    · exact O.trans _ _ _ (h i (j - 1) (by omega) (by omega)) k
  · exact h i j hij (by omega)
theorem Dd.snoc (O : Ord n lt) {m : Nat} (hm : 1 ≤ m) (h : Dd lt p m) (k : lt (p.getD m 0) (p.getD (m - 1) 0) = true) : Dd lt p (m + 1) := by
  intro i j hij hj
  by_cases e : j = m
  · subst e
    by_cases e2 : i = j - 1
    · subst e2; exact k
    · exact O.trans _ _ _ k (h i (j - 1) (by omega) (by omega))
  · exact h i j hij (by omega)
theorem run_asc (O : Ord n lt) (P : PA n p) : ∀ (f m : Nat), 1 ≤ m → m + f ≤ n → Sd lt p m → Run lt n (kas_asc p f m) (fun r => m ≤ r ∧ r ≤ m + f ∧ Sd lt p r ∧ (r < m + f → lt (p.getD r 0) (p.getD (r - 1) 0) = true))
  | 0, m, _, _, h => ⟨Nat.le_refl _, Nat.le_refl _, h, fun q => absurd q (Nat.lt_irrefl _)⟩
  | f + 1, m, hm, hf, h => by
    refine ⟨P.lt (by omega), P.lt (by omega), P.ne (by omega) (by omega) (by omega), ?_⟩
    cases c : lt (p.getD m 0) (p.getD (m - 1) 0) with
    | true => exact ⟨Nat.le_refl _, by omega, h, fun _ => c⟩
    | false =>
      have t := (O.total _ _ (P.lt (i := m) (by omega)) (P.lt (i := m - 1) (by omega)) (P.ne (by omega) (by omega) (by omega))).resolve_left (by rw [c]; decide)
      refine Run_mono (fun r q => ⟨by omega, by omega, q.2.2.1, fun q2 => q.2.2.2 (by omega)⟩) _ (run_asc O P f (m + 1) (by omega) (by omega) (h.snoc O hm t))
theorem run_desc (O : Ord n lt) (P : PA n p) : ∀ (f m : Nat), 1 ≤ m → m + f ≤ n → Dd lt p m → Run lt n (kas_desc f p m 0) (fun r => r.1 = p ∧ r.2.2 = 0 ∧ m ≤ r.2.1 ∧ r.2.1 ≤ m + f ∧ Dd lt p r.2.1)
  | 0, m, _, _, h => ⟨rfl, rfl, Nat.le_refl _, Nat.le_refl _, h⟩
  | f + 1, m, hm, hf, h => by
    refine ⟨P.lt (by omega), P.lt (by omega), P.ne (by omega) (by omega) (by omega), ?_⟩
    cases c : lt (p.getD m 0) (p.getD (m - 1) 0) with
    | true => exact Run_mono (fun r q => ⟨q.1, q.2.1, by omega, by omega, q.2.2.2.2⟩) _ (run_desc O P f (m + 1) (by omega) (by omega) (h.snoc O hm c))
    | false =>
      have t := (O.total _ _ (P.lt (i := m) (by omega)) (P.lt (i := m - 1) (by omega)) (P.ne (by omega) (by omega) (by omega))).resolve_left (by rw [c]; decide)
      refine ⟨P.lt (by omega), P.lt (by omega), P.ne (by omega) (by omega) (by omega), ?_⟩
      rw [t]
      exact ⟨rfl, rfl, Nat.le_refl _, Nat.le_add_right _ _, h⟩
theorem rev_getD (P : PA n p) {m : Nat} (hm : m ≤ n) {k : Nat} (hk : k < n) : (kas_rev p 0 m).getD k 0 = if k < m then p.getD (m - 1 - k) 0 else p.getD k 0 := by
  have hsz := P.size
  have e := getElem?_mirror_all (xs := p) (i := 0) (j := m) (by omega) k
  have Q : PA n (kas_rev p 0 m) := P.of_perm (mirror_perm _ _ _ _)
  have e2 := Q.getD hk
  show (kas_rev p 0 m).getD k 0 = _
  have e3 : (kas_rev p 0 m)[k]? = if 0 ≤ k ∧ k < m then p[0 + m - 1 - k]? else p[k]? := e
  rw [e2] at e3
  by_cases h : k < m
  · rw [if_pos ⟨Nat.zero_le _, h⟩, show 0 + m - 1 - k = m - 1 - k by omega, P.getD (by omega)] at e3
    rw [if_pos h]; exact Option.some.inj e3
  · rw [if_neg (fun q => h q.2), P.getD hk] at e3
    rw [if_neg h]; exact Option.some.inj e3
theorem run_tail3 (O : Ord n lt) (P : PA n p) {m : Nat} (hm : 1 ≤ m) (hn : m ≤ n) (h : Dd lt p m) : Run lt n (kas_tail3 m n p) (fun r => 1 ≤ r.1 ∧ r.1 ≤ n ∧ PA n r.2 ∧ Sd lt r.2 r.1) := by
  have Q : PA n (kas_rev p 0 m) := P.of_perm (mirror_perm _ _ _ _)
  refine Run_bind _ (Run_mono (fun r q => ?_) _ (run_asc O Q (n - m) m hm (by omega) ?_))
  · exact ⟨by omega, by omega, Q, q.2.2.1⟩
  · intro i j hij hj
    rw [rev_getD P hn (by omega), rev_getD P hn (by omega), if_pos (by omega), if_pos (by omega)]
    exact h _ _ (by omega) (by omega)
theorem run_count (O : Ord n lt) (P : PA n p) (hn : 1 ≤ n) : Run lt n (kas_count n p) (fun r => 1 ≤ r.1 ∧ r.1 ≤ n ∧ PA n r.2 ∧ Sd lt r.2 r.1) := by
  refine Run_bind _ (Run_mono (fun m q => ?_) _ (run_asc O P (n - 1) 1 (Nat.le_refl _) (by omega) (fun i j a b => by omega)))
  obtain ⟨h1, h2, h3, h4⟩ := q
  by_cases e1 : m = n
  · subst e1
    simp only [beq_self_eq_true, if_true]
    exact ⟨h1, Nat.le_refl _, P, h3⟩
  · have e1' : (m == n) = false := by simp [e1]
    simp only [e1', Bool.false_eq_true, if_false]
    by_cases e2 : m > 1
    · rw [if_pos e2]
      refine ⟨P.lt (by omega), P.lt (by omega), P.ne (by omega) (by omega) (by omega), ?_⟩
      rw [h3 0 (m - 1) (by omega) (by omega)]
      exact ⟨h1, by omega, P, h3⟩
    · rw [if_neg e2]
      have em : m = 1 := by omega
      subst em
      have h5 := h4 (by omega)
      refine Run_bind _ (Run_mono (fun r q => ?_) _ (run_desc O P (n - 2) 2 (by omega) (by omega) ?_))
      · obtain ⟨q1, q2, q3, q4, q5⟩ := q
        rw [q2]
        simp only [Nat.lt_irrefl, if_false, gt_iff_lt]
        rw [q1]
        exact run_tail3 O P (by omega) (by omega) q5
      · intro i j hij hj
        have : i = 0 := by omega
        subst this
        have : j = 1 := by omega
        subst this
        exact h5
theorem run_place (O : Ord n lt) (P : PA n p) {k : Nat} (hk : k < n) (hS : Sd lt p k) : ∀ (f l r : Nat), r ≤ k → l ≤ r → r - l ≤ f → (∀ i, i < l → lt (p.getD i 0) (p.getD k 0) = true) → (∀ i, r ≤ i → i < k → lt (p.getD k 0) (p.getD i 0) = true) →
    Run lt n (kas_place p k f l r) (fun l' => l' ≤ k ∧ (∀ i, i < l' → lt (p.getD i 0) (p.getD k 0) = true) ∧ (∀ i, l' ≤ i → i < k → lt (p.getD k 0) (p.getD i 0) = true))
  | 0, l, r, h1, h2, h3, h4, h5 => ⟨by omega, h4, fun i a b => h5 i (by omega) b⟩
  | f + 1, l, r, h1, h2, h3, h4, h5 => by
    unfold kas_place
    by_cases e : l ≥ r
    · rw [if_pos e]
      exact ⟨by omega, h4, fun i a b => h5 i (by omega) b⟩
    · rw [if_neg e]
      have hm : (l + r) / 2 < r := by omega
      have hl : l ≤ (l + r) / 2 := by omega
      refine ⟨P.lt hk, P.lt (by omega), P.ne hk (by omega) (by omega), ?_⟩
      cases c : lt (p.getD k 0) (p.getD ((l + r) / 2) 0) with
      | true =>
        refine run_place O P hk hS f l ((l + r) / 2) (by omega) hl (by omega) h4 fun i a b => ?_
        by_cases e2 : i = (l + r) / 2
        · rw [e2]; exact c
        · exact O.trans _ _ _ c (hS _ _ (by omega) b)
      | false =>
        have t := (O.total _ _ (P.lt (i := k) hk) (P.lt (i := (l + r) / 2) (by omega)) (P.ne hk (by omega) (by omega))).resolve_left (by rw [c]; decide)
        refine run_place O P hk hS f ((l + r) / 2 + 1) r h1 (by omega) (by omega) (fun i a => ?_) h5
        by_cases e2 : i = (l + r) / 2
        · rw [e2]; exact t
        · exact O.trans _ _ _ (hS i ((l + r) / 2) (by omega) (by omega)) t
theorem bubble_getD (P : PA n p) {k l : Nat} (hk : k < n) (hl : l ≤ k) {i : Nat} (hi : i < n) : (bubble p k (k - l)).getD i 0 = if i = l then p.getD k 0 else if l < i ∧ i ≤ k then p.getD (i - 1) 0 else p.getD i 0 := by
  have e := getElem?_bubble (xs := p) (src := k) (by rw [P.size]; exact hk) (k - l) (by omega) i
  have Q : PA n (bubble p k (k - l)) := P.of_perm (bubble_perm _ _ _)
  rw [Q.getD hi, show k - (k - l) = l by omega] at e
  by_cases e1 : i = l
  · rw [if_pos e1, P.getD hk] at e
    rw [if_pos e1]; exact Option.some.inj e
  · rw [if_neg e1] at e
    rw [if_neg e1]
    by_cases e2 : l < i ∧ i ≤ k
    · rw [if_pos e2, P.getD (by omega)] at e
      rw [if_pos e2]; exact Option.some.inj e
    · rw [if_neg e2, P.getD hi] at e
      rw [if_neg e2]; exact Option.some.inj e
theorem run_bin (O : Ord n lt) : ∀ (f : Nat) (p : Array Nat) (k : Nat), PA n p → k + f ≤ n → Sd lt p k → Run lt n (kas_bin f p k) (fun p' => PA n p' ∧ Sd lt p' (k + f))
  | 0, p, k, P, _, h => ⟨P, h⟩
  | f + 1, p, k, P, hf, h => by
    refine Run_bind _ (Run_mono (fun l q => ?_) _ (run_place O P (by omega) h k 0 k (Nat.le_refl _) (Nat.zero_le _) (by omega) (fun i a => by omega) (fun i a b => by omega)))
    obtain ⟨q1, q2, q3⟩ := q
    refine Run_mono (fun r q => ⟨q.1, by rw [show k + (f + 1) = k + 1 + f by omega]; exact q.2⟩) _ (run_bin O f _ (k + 1) (P.of_perm (bubble_perm _ _ _)) (by omega) ?_)
    intro i j hij hj
    rw [bubble_getD P (by omega) q1 (by omega), bubble_getD P (by omega) q1 (by omega)]
    by_cases e1 : i = l
    · rw [if_pos e1, if_neg (by omega), if_pos (by omega)]
      exact q3 _ (by omega) (by omega)
    · rw [if_neg e1]
      by_cases e2 : j = l
      · rw [if_pos e2, if_neg (by omega)]
        exact q2 _ (by omega)
      · rw [if_neg e2]
        repeat' split
        all_goals first | exact h _ _ (by omega) (by omega) | (exfalso; omega)
theorem run_sort (O : Ord n lt) (hn : 1 ≤ n) : Run lt n (kas_sort n) (fun p => PA n p ∧ Sd lt p n) := by
  have P : PA n (List.toArray (List.range n)) := ⟨List.Perm.refl _⟩
  refine Run_bind _ (Run_mono (fun r q => ?_) _ (run_count O P hn))
  obtain ⟨q1, q2, q3, q4⟩ := q
  by_cases e : r.1 < n
  · rw [if_pos e, show max r.1 1 = r.1 by omega]
    refine Run_mono (fun p h => ⟨h.1, by rw [show n = r.1 + (n - r.1) by omega]; exact h.2⟩) _ (run_bin O (n - r.1) r.2 r.1 q3 (by omega) q4)
  · rw [if_neg e]
    have : r.1 = n := by omega
    exact ⟨q3, by rw [← this]; exact q4⟩
end

end
section

abbrev tupOf (xs : Array Value) (n : Nat) : Obj := { cls := .type "tuple", data := .seq xs n }
section
variable {prog : Program} {w : World} {A : Around} {E : Value → Shared → Prop} {s : Shared} {b c : By} {t u : Tok}
theorem eqBool_by {Q : Bool → Shared → Prop} (h : Q (decide (b = c)) s) : wpAny (model prog w) A (eqBool (.bytes b t) (.bytes c u)) Q E s := by
  unfold eqBool
  show wpAny _ _ (if (Value.bytes b t == Value.bytes c u) = true then _ else _) Q E s
  by_cases hab : (Value.bytes b t == Value.bytes c u) = true
  · rw [if_pos hab]
    have e : b = c := by have := eq_of_beq hab; injection this
    subst e
    exact wpAny_bind (wpAny_rule (wpAny_pure (by simpa using h)))
  · rw [if_neg hab]
    refine wpAny_bind (richCompare_gives (op := .Eq) (T := "bytes") rfl rfl FB.slot_bytes_eq FB.entry_bytes_eq (FB.args_bytes_eq_2 _ _) (gives_bytes_eq b c t u) (fun x => nomatch x) (wpAny_truthy_bool ?_))
    rw [by_beq]; exact h
end
/-- the value is a tuple of the ledger: bytes, an int, a third -/
def RowIn (news : Led) (v : Value) (k : By × Int) : Prop := ∃ a x t u n, v = .ref a ∧ (a, tupOf #[.bytes k.1 t, .int k.2 u, x] n) ∈ news
def rowLt (a b : By × Int) : Bool := blt a.1 b.1 || (decide (a.1 = b.1) && decide (a.2 < b.2))
theorem rowLt_trans {a b c : By × Int} (h : rowLt a b = true) (k : rowLt b c = true) : rowLt a c = true := by
  simp only [rowLt, Bool.or_eq_true, Bool.and_eq_true, decide_eq_true_eq] at h k ⊢
  rcases h with h | ⟨h1, h2⟩ <;> rcases k with k | ⟨k1, k2⟩
  · exact .inl (blt_trans h k)
  · exact .inl (k1 ▸ h)
  · exact .inl (h1 ▸ k)
  · exact .inr ⟨h1.trans k1, by omega⟩
theorem rowLt_asymm {a b : By × Int} (h : rowLt a b = true) : rowLt b a = false := by
  cases q : rowLt b a with
  | false => rfl
  | true =>
    have z := rowLt_trans h q
    simp [rowLt, blt_irrefl] at z
theorem rowLt_total {a b : By × Int} (h : a.2 ≠ b.2) : rowLt a b = true ∨ rowLt b a = true := by
  simp only [rowLt, Bool.or_eq_true, Bool.and_eq_true, decide_eq_true_eq]
  cases h1 : blt a.1 b.1 with
  | true => exact .inl (.inl rfl)
  | false =>
    cases h2 : blt b.1 a.1 with
    | true => exact .inr (.inl rfl)
    | false =>
      have e := blt_total h1 h2
      rcases Int.lt_or_gt_of_ne h with q | q
      · exact .inl (.inr ⟨e, q⟩)
      · exact .inr (.inr ⟨e.symm, q⟩)
section
variable {prog : Program} {w : World} {A : Around} {E : Value → Shared → Prop} {s : Shared} {h₀ : Heap} {L : Addr} {m : Str → Option Value} {news : Led} {vs : List Value} {ks : List (By × Int)}
theorem rows_lt {v v' : Value} {k k' : By × Int} {C : Bool → Shared → Prop} (N : News h₀ L s.heap news) (h1 : RowIn news v k) (h2 : RowIn news v' k') (hne : k.2 ≠ k'.2) (h : C (rowLt k k') s) :
    wpAny (model prog w) A (keyLt' (tuples' true) v v') C E s := by
  obtain ⟨a, x, t, u, n, rfl, hm⟩ := h1
  obtain ⟨a', x', t', u', n', rfl, hm'⟩ := h2
  refine kat_lt (N _ hm).1 rfl (N _ hm').1 rfl ?_
  show KatLex prog w A true _ C [(.bytes k.1 t, .bytes k'.1 t'), (.int k.2 u, .int k'.2 u'), (x, x')] 0 s
  refine kat_cons (eqBool_by (kat_go (fun e => kat_yes (kat_cons (wpAny_eqBool_int (kat_go (fun e2 => ?_) fun e2 => kat_no ?_)))) fun e => kat_no ?_))
  · exact absurd (eq_of_beq e2) hne
  · refine kat_one _ _ (cmp_ofLt (show wpAny _ _ (compareOp .Lt (.int k.2 u) (.int k'.2 u')) _ _ _ from lt_int ?_))
    have e1 := of_decide_eq_true e
    have z : rowLt k k' = decide (k.2 < k'.2) := by simp [rowLt, e1, blt_irrefl]
    rw [z] at h
    exact h
  · have e1 := of_decide_eq_false e
    have z : rowLt k k' = blt k.1 k'.1 := by simp [rowLt, e1]
    rw [z] at h
    exact oneLt_by h

theorem kasFin_of {D : Addr} {e1 : Nat} {out : List Value} {C : Shared → Prop} {s : Shared} (F : Fr h₀ L s.heap m) (N : News h₀ L s.heap ((D, seqObj "list" #[] e1) :: news)) (hl : ∀ q ∈ news, q.1 ≠ D)
    (k : ∀ h' c, Fr h₀ L h' m → News h₀ L h' ((D, listOf (List.toArray out) c) :: news) → C { s with heap := h' }) : KasFin h₀ L m D e1 out C s :=
  KasFin.intro F N (UpdF.head hl) k

theorem kat_small {a : Addr} {n : Nat} {P : PySem.Fin → Shared → Prop} (F : Fr h₀ L s.heap m) (N : News h₀ L s.heap news) (ho : s.heap.get? a = some (seqObj "list" vs.toArray n)) (haL : a ≠ L) (ha0 : h₀.get? a = none) (hna : ∀ p ∈ news, p.1 ≠ a)
    (h2 : vs.length < 2)
    (h : ∀ c h', Fr h₀ L h' m → News h₀ L h' ((a, listOf vs.toArray c) :: news) → P (.done (.ret .none)) { s with heap := h' }) :
    wpAny (model prog w) A (Builtin.«list.sort» ⟨[.ref a], []⟩) P E s := by
  have ha : a < s.heap.objs.size := Heap.lt_size ho
  have s1 := Heap.SameBut.update s.heap a (Obj.mapSeq fun _ => (#[] : Array Value))
  obtain ⟨e1, ho1⟩ : ∃ e1, (s.heap.update a (Obj.mapSeq fun _ => (#[] : Array Value))).get? a = some (seqObj "list" #[] e1) := ⟨_, get?_update_seq ho fun _ => #[]⟩
  have F3 : Fr h₀ L (((s.heap.update a (Obj.mapSeq fun _ => (#[] : Array Value))).push (seqObj "tuple" vs.toArray 0)).push (seqObj "list" #[] 0)) m := ((kas_fr F s1 haL ha0).push _).push _
  have N2 : News h₀ L (((s.heap.update a (Obj.mapSeq fun _ => (#[] : Array Value))).push (seqObj "tuple" vs.toArray 0)).push (seqObj "list" #[] 0)) news :=
    (kas_news N s1 hna).grown fun b x e => Heap.get?_push_of_some _ (Heap.get?_push_of_some _ e)
  have na : (((s.heap.update a (Obj.mapSeq fun _ => (#[] : Array Value))).push (seqObj "tuple" vs.toArray 0)).push (seqObj "list" #[] 0)).get? a = some (seqObj "list" #[] e1) := Heap.get?_push_of_some _ (Heap.get?_push_of_some _ ho1)
  have N3 : News h₀ L (((s.heap.update a (Obj.mapSeq fun _ => (#[] : Array Value))).push (seqObj "tuple" vs.toArray 0)).push (seqObj "list" #[] 0)) ([] ++ (a, seqObj "list" #[] e1) :: news) := fun p hp => by
    rcases List.mem_cons.mp hp with rfl | hp
    · exact ⟨na, haL, ha0⟩
    · exact N2 p hp
  rw [list_sort_plain]
  refine wpAny_bind (listItems_at ho rfl ?_)
  refine wpAny_bind (listUpdate_at ho rfl ?_ (by rw [List.size_toArray, sizeLine_eq]; omega) (Nat.zero_le _))
  refine wpAny_bind (seqEpoch_at ho1 rfl ?_)
  refine wpAny_bind (wpAny_newTuple ?_ (by show vs.length ≤ _; rw [sizeLine_eq]; omega))
  refine wpAny_bind (wpAny_newList ?_ (Nat.zero_le _))
  refine wpAny_holding ?_
  show wpAny (model prog w) A _ P E { s with heap := ((s.heap.update a (Obj.mapSeq fun _ => (#[] : Array Value))).push (seqObj "tuple" vs.toArray 0)).push (seqObj "list" #[] 0) }
  dsimp only
  have hn2 : vs.toArray.size < 2 := by rw [List.size_toArray]; omega
  rw [if_pos hn2, if_pos hn2]
  refine wpAny_bind (wpAny_pure ?_)
  rw [StateT.run_pure]
  refine wpAny_bind (wpAny_pure ?_)
  dsimp only
  refine wpAny_bind (seqEpoch_at na rfl ?_)
  have s2 := Heap.SameBut.update (((s.heap.update a (Obj.mapSeq fun _ => (#[] : Array Value))).push (seqObj "tuple" vs.toArray 0)).push (seqObj "list" #[] 0)) a (Obj.mapSeq fun _ => vs.toArray)
  obtain ⟨c2, hc2⟩ : ∃ c2, ((((s.heap.update a (Obj.mapSeq fun _ => (#[] : Array Value))).push (seqObj "tuple" vs.toArray 0)).push (seqObj "list" #[] 0)).update a (Obj.mapSeq fun _ => vs.toArray)).get? a = some (seqObj "list" vs.toArray c2) := ⟨_, get?_update_seq na fun _ => vs.toArray⟩
  have hout : (arrOf (SortSt.mk' general' (vs.toArray.zip vs.toArray) #[] 7 none)).map (·.2) = vs.toArray := by
    show (vs.toArray.zip vs.toArray).map (·.2) = vs.toArray
    apply Array.toList_inj.mp
    simp [List.map_snd_zip]
  rw [hout]
  refine wpAny_bind (listUpdate_at na rfl ?_ (Nat.zero_le _) (by rw [List.size_toArray, sizeLine_eq]; omega))
  rw [if_neg (by simp)]
  refine wpAny_pure (h c2 _ (kas_fr F3 s2 haL ha0) ?_)
  exact news_set N3 (fun _ hp => nomatch hp) hna s2 hc2

theorem sorted_small {l : Addr} {Q : Value → Shared → Prop} (F : Fr h₀ L s.heap m) (N : News h₀ L s.heap news) (hl : s.heap.IsList l vs.toArray) (h2 : vs.length < 2)
    (h : ∀ D c h', Fr h₀ L h' m → News h₀ L h' ((D, listOf vs.toArray c) :: news) → (∀ q ∈ news, q.1 < D) → Q (.ref D) { s with heap := h' }) :
    wpAny (model prog w) A (call (.builtin "sorted") [.ref l]) Q E s := by
  refine Calls.call_function_entry kind_sorted plain_sorted entry_sorted (args_sorted1 _) ?_
  unfold Builtin.«sorted»
  refine wpAny_bind (m := checkCount "sorted" 1 1 _) (wpAny_pure ?_)
  refine wpAny_bind (collect_list hl ?_ (by rw [sizeLine_eq]; omega))
  refine wpAny_bind (wpAny_newList ?_ (by rw [sizeLine_eq]; omega))
  have hsz : ((s.heap.push (seqObj "list" #[] 0)).update s.heap.objs.size (Obj.mapSeq (· ++ vs.toArray))).objs.size = s.heap.objs.size + 1 := by
    rw [Heap.size_update, size_push']
  have hoL : (((s.heap.push (seqObj "list" #[] 0)).update s.heap.objs.size (Obj.mapSeq (· ++ vs.toArray))).push (seqObj "list" vs.toArray 0)).get? (s.heap.objs.size + 1) = some (seqObj "list" vs.toArray 0) := by
    rw [← hsz]; exact Heap.get?_push_size _ rfl
  have keep : ∀ b o, s.heap.get? b = some o → (((s.heap.push (seqObj "list" #[] 0)).update s.heap.objs.size (Obj.mapSeq (· ++ vs.toArray))).push (seqObj "list" vs.toArray 0)).get? b = some o := fun b o q => by
    have hlt : b < s.heap.objs.size := Heap.lt_size q
    rw [Heap.get?_push_ne _ _ _ (by rw [hsz]; exact Nat.ne_of_lt (Nat.lt_succ_of_lt hlt)), Heap.get?_update_ne _ _ _ _ (Nat.ne_of_lt hlt), Heap.get?_push_ne _ _ _ (Nat.ne_of_lt hlt)]
    exact q
  have hL : L < s.heap.objs.size := F.ns.lt
  show wpAny _ _ _ _ _ { s with heap := ((s.heap.push (seqObj "list" #[] 0)).update s.heap.objs.size (Obj.mapSeq (· ++ vs.toArray))).push (seqObj "list" vs.toArray 0) }
  rw [hsz]
  refine wpAny_bind (wpAny_holding (wpAny_call_entry slot_list_sort ⟨_, hoL, rfl⟩ entry_list_sort ?body (args_list_sort _)))
  case body =>
    refine kat_small (s := { s with heap := ((s.heap.push (seqObj "list" #[] 0)).update s.heap.objs.size (Obj.mapSeq (· ++ vs.toArray))).push (seqObj "list" vs.toArray 0) })
      (F.kept keep) (N.grown keep) hoL (Nat.ne_of_gt (Nat.lt_succ_of_lt hL)) (Heap.get?_none_of_le (Nat.le_trans F.above (Nat.le_succ_of_le (Nat.le_of_lt hL))))
      (fun p hp => Nat.ne_of_lt (Nat.lt_succ_of_lt (Heap.lt_size (N p hp).1))) h2 fun c h' F' N' => ?_
    exact ⟨_, rfl, wpAny_pure ⟨_, rfl, h _ c h' F' N' fun q hq => Nat.lt_succ_of_lt (Heap.lt_size (N q hq).1)⟩⟩

/-- values and what they are, item by item -/
structure All2 {α β : Type} (P : α → β → Prop) (vs : List α) (ks : List β) : Prop where
  len : vs.length = ks.length
  at_ : ∀ (i : Nat) (v : α) (k : β), vs[i]? = some v → ks[i]? = some k → P v k
theorem All2.nil {α β : Type} {P : α → β → Prop} : All2 P [] [] := ⟨rfl, fun i v k h => by simp at h⟩
theorem All2.get {α β : Type} {P : α → β → Prop} {vs : List α} {ks : List β} (h : All2 P vs ks) {i : Nat} {k : β} (hk : ks[i]? = some k) : ∃ v, vs[i]? = some v ∧ P v k := by
  have hi : i < ks.length := (List.getElem?_eq_some_iff.mp hk).1
  have hv : vs[i]? = some (vs[i]'(by rw [h.len]; exact hi)) := List.getElem?_eq_getElem _
  exact ⟨_, hv, h.at_ i _ _ hv hk⟩
theorem All2.get' {α β : Type} {P : α → β → Prop} {vs : List α} {ks : List β} (h : All2 P vs ks) {i : Nat} {v : α} (hv : vs[i]? = some v) : ∃ k, ks[i]? = some k ∧ P v k := by
  have hi : i < vs.length := (List.getElem?_eq_some_iff.mp hv).1
  have hk : ks[i]? = some (ks[i]'(by rw [← h.len]; exact hi)) := List.getElem?_eq_getElem _
  exact ⟨_, hk, h.at_ i _ _ hv hk⟩
theorem All2.mono {α β : Type} {P P' : α → β → Prop} {vs : List α} {ks : List β} (h : All2 P vs ks) (hp : ∀ v k, P v k → P' v k) : All2 P' vs ks := ⟨h.len, fun i v k a b => hp _ _ (h.at_ i v k a b)⟩
theorem All2.append {α β : Type} {P : α → β → Prop} {vs us : List α} {ks ls : List β} (h : All2 P vs ks) (h' : All2 P us ls) : All2 P (vs ++ us) (ks ++ ls) := by
  refine ⟨by rw [List.length_append, List.length_append, h.len, h'.len], fun i v k a b => ?_⟩
  by_cases hi : i < vs.length
  · rw [List.getElem?_append_left hi] at a
    rw [List.getElem?_append_left (by rw [← h.len]; exact hi)] at b
    exact h.at_ i v k a b
  · rw [List.getElem?_append_right (by omega)] at a
    rw [List.getElem?_append_right (by rw [← h.len]; omega), ← h.len] at b
    exact h'.at_ _ v k a b
theorem All2.one {α β : Type} {P : α → β → Prop} {v : α} {k : β} (h : P v k) : All2 P [v] [k] := ⟨rfl, fun i v' k' a b => by
  cases i with
  | zero => simp at a b; subst a; subst b; exact h
  | succ i => simp at a⟩
theorem All2.pick {α β : Type} {P : α → β → Prop} {vs : List α} {ks : List β} {dv : α} {dk : β} (h : All2 P vs ks) {p : List Nat} (hp : ∀ i ∈ p, i < ks.length) : All2 P (p.map fun i => vs.getD i dv) (p.map fun i => ks.getD i dk) := by
  refine ⟨by simp, fun i v k a b => ?_⟩
  rw [List.getElem?_map] at a b
  cases e : p[i]? with
  | none => rw [e] at a; cases a
  | some j =>
    rw [e] at a b
    have hj := hp j (List.mem_of_getElem? e)
    have hj' : j < vs.length := by rw [h.len]; exact hj
    simp only [Option.map_some, Option.some.injEq] at a b
    subst a; subst b
    have e1 : vs.getD j dv = vs[j] := by simp [hj']
    have e2 : ks.getD j dk = ks[j] := by simp [hj]
    rw [e1, e2]
    exact h.at_ j _ _ (List.getElem?_eq_getElem _) (List.getElem?_eq_getElem _)

theorem tups_of (N : News h₀ L s.heap news) : ∀ (vs : List Value) (ks : List (By × Int)), All2 (RowIn news) vs ks → ∃ fs : List Value, KatTups s.heap vs fs ∧ fs.length = ks.length ∧ ∀ f ∈ fs, ∃ b t, f = .bytes b t
  | [], [], _ => ⟨[], KatTups.nil, rfl, fun _ h => nomatch h⟩
  | [], _ :: _, h => by have := h.len; simp at this
  | _ :: _, [], h => by have := h.len; simp at this
  | v :: vs, k :: ks, h => by
    obtain ⟨fs, h1, h2, h3⟩ := tups_of N vs ks ⟨by have := h.len; simpa using this, fun i v k a b => h.at_ (i + 1) v k (by simpa using a) (by simpa using b)⟩
    obtain ⟨a, x, t, u, n, rfl, hm⟩ := h.at_ 0 v k rfl rfl
    exact ⟨.bytes k.1 t :: fs, KatTups.cons (N _ hm).1 rfl rfl rfl h1, by rw [List.length_cons, List.length_cons, h2], fun f hf => by
      rcases List.mem_cons.mp hf with rfl | hf
      · exact ⟨_, _, rfl⟩
      · exact h3 f hf⟩

/-- sorted of a list of rows with unlike second parts -/
theorem sorted_rows {l : Addr} {Q : Value → Shared → Prop} (F : Fr h₀ L s.heap m) (N : News h₀ L s.heap news) (hl : s.heap.IsList l vs.toArray) (hr : All2 (RowIn news) vs ks) (hd : (ks.map (·.2)).Nodup) (h64 : ks.length < 64)
    (h : ∀ D c h' (p : List Nat), Fr h₀ L h' m → News h₀ L h' ((D, listOf (p.map fun i => vs.getD i Value.none).toArray c) :: news) → (∀ q ∈ news, q.1 < D) → p.Perm (List.range ks.length) →
      (p.map fun i => ks.getD i (#[], 0)).Pairwise (fun a b => rowLt a b = true) → Q (.ref D) { s with heap := h' }) :
    wpAny (model prog w) A (call (.builtin "sorted") [.ref l]) Q E s := by
  by_cases h2 : vs.length < 2
  · refine sorted_small F N hl h2 fun D c h' F' N' hl' => ?_
    have e1 : (List.range ks.length).map (fun i => vs.getD i Value.none) = vs := by
      rw [← hr.len]
      apply List.ext_getElem?
      intro i
      by_cases hi : i < vs.length
      · simp [hi]
      · simp [Nat.le_of_not_lt hi]
    refine h D c h' (List.range ks.length) F' (by rw [e1]; exact N') hl' (List.Perm.refl _) ?_
    rw [← hr.len]
    match hv : vs.length, h2 with
    | 0, _ => simp
    | 1, _ => simp
    | n + 2, q => omega
  · have h64' : vs.length < 64 := by rw [hr.len]; exact h64
    refine kat_sorted F N hl (by omega) h64' fun D e1 h' F' N' hl' => ?_
    have N2 : News h₀ L h' news := fun p hp => N' p (.tail _ hp)
    obtain ⟨fs, t1, t2, t3⟩ := tups_of (s := { s with heap := h' }) N2 vs ks hr
    refine kat_kind (T := .type "bytes") t1 (by have := hr.len; omega) (fun v hv => ?_) (by decide) ?_
    · obtain ⟨b, t, rfl⟩ := t3 v hv
      exact Looks.of_pure rfl
    · show KasT.kasWp _ _ _ _
      have hn : vs.length = ks.length := hr.len
      have inj : ∀ i j, i < ks.length → j < ks.length → i ≠ j → (ks.getD i (#[], 0)).2 ≠ (ks.getD j (#[], 0)).2 := fun i j hi hj hij e => by
        refine hij ((List.getElem?_inj (l := ks.map (·.2)) (by simpa using hi) hd).mp ?_)
        simp only [List.getElem?_map]
        have a1 : ks.getD i (#[], 0) = ks[i] := by simp [hi]
        have a2 : ks.getD j (#[], 0) = ks[j] := by simp [hj]
        rw [a1, a2] at e
        simp [hi, hj, e]
      have O : Ord vs.length (fun i j => rowLt (ks.getD i (#[], 0)) (ks.getD j (#[], 0))) := ⟨fun a b c => rowLt_trans, fun a b => rowLt_asymm, fun a b ha hb hab => rowLt_total (inj a b (by omega) (by omega) hab)⟩
      refine Run_wp (lt := fun i j => rowLt (ks.getD i (#[], 0)) (ks.getD j (#[], 0))) (n := vs.length) (fun i j C hi hj hij hC => ?_) _ (Run_mono (fun p hp => ?_) _ (run_sort O (by omega)))
      · show wpAny _ _ _ _ _ _
        have r1 := hr.at_ i (vs[i]'hi) (ks[i]'(by omega)) (List.getElem?_eq_getElem _) (List.getElem?_eq_getElem _)
        have r2 := hr.at_ j (vs[j]'hj) (ks[j]'(by omega)) (List.getElem?_eq_getElem _) (List.getElem?_eq_getElem _)
        have b1 : vs.getD i Value.none = vs[i] := by simp [hi]
        have b2 : vs.getD j Value.none = vs[j] := by simp [hj]
        have a1 : ks.getD i (#[], 0) = ks[i]'(by omega) := by simp [show i < ks.length by omega]
        have a2 : ks.getD j (#[], 0) = ks[j]'(by omega) := by simp [show j < ks.length by omega]
        have ne := inj i j (by omega) (by omega) hij
        rw [a1, a2] at hC ne
        rw [b1, b2]
        exact rows_lt (s := { s with heap := h' }) N2 r1 r2 ne hC
      · obtain ⟨P, S⟩ := hp
        refine kasFin_of F' N' (fun q hq => Nat.ne_of_lt (hl' q hq)) fun h2' c F2 N2' => ?_
        refine h D c h2' p.toList F2 N2' hl' (by rw [← hn]; exact P.perm) ?_
        rw [List.pairwise_map]
        rw [List.pairwise_iff_getElem]
        intro i j hi hj hij
        have hs : p.toList.length = vs.length := by rw [Array.length_toList, P.size]
        have := S i j hij (by omega)
        have c1 : p.getD i 0 = p.toList[i] := by
          have : i < p.size := by simpa using hi
          simp [Array.getD, this]
        have c2 : p.getD j 0 = p.toList[j] := by
          have : j < p.size := by simpa using hj
          simp [Array.getD, this]
        rw [c1, c2] at this
        exact this
end

end
section

abbrev Vars := Str → Option Value
section
variable {prog : Program} {w : World} {A : Around} {E : Value → Shared → Prop} {s : Shared} {env : Env} {h₀ : Heap} {x : Str} {body : List Stmt} {Q : Flow → Shared → Prop}
/-- a turn of a loop that leaves the ledger alone -/
def RoEnd (h₀ : Heap) (L : Addr) (x : Str) (m₀ : Vars) (nx : Led) (P : Prop) (s : Shared) (Q : Flow → Shared → Prop) (f : Flow) (s₂ : Shared) : Prop :=
  match f with
  | .ret v => Q (.ret v) s₂
  | .brk => Q .next s₂
  | _ => P ∧ ∃ h' tk' m', s₂ = { s with heap := h', toks := tk' } ∧ Fr h₀ L h' m' ∧ (∀ z, z ≠ x → m' z = m₀ z) ∧ News h₀ L h' nx
theorem RoEnd.next {h₀ : Heap} {L : Addr} {m₀ m' : Vars} {nx : Led} {P : Prop} {s : Shared} {h' : Heap} {tk' : Nat} (F : Fr h₀ L h' m') (N : News h₀ L h' nx) (hp : P) (hm : ∀ z, z ≠ x → m' z = m₀ z) :
    RoEnd h₀ L x m₀ nx P s Q .next { s with heap := h', toks := tk' } := ⟨hp, h', tk', m', rfl, F, hm, N⟩
theorem vars_at {m₁ m₀ : Vars} {v : Option Value} (h : ∀ z, z ≠ x → m₁ z = m₀ z) : (fun y => if y = x then v else m₁ y) = fun y => if y = x then v else m₀ y := by
  funext y
  by_cases e : y = x
  · simp [e]
  · simp [e, h y e]
theorem vars_out {m₁ m₀ : Vars} (h : ∀ z, z ≠ x → m₁ z = m₀ z) : m₁ = fun y => if y = x then m₁ x else m₀ y := by
  funext y
  by_cases e : y = x
  · simp [e]
  · simp [e, h y e]
/-- for over a range from nought by ones, any word over turn, frame and ledger -/
theorem range_G {r : Addr} {t₀ u₀ v₀ : Tok} {n : Nat} {m₀ : Vars} {news : Led} (J : Nat → Vars → Led → Prop)
    (hh : A.handled = none) (hr : IsRange s.heap r 0 (n : Int) 1 t₀ u₀ v₀) (hn : n < 2 ^ 40) (F : Fr h₀ env.locals s.heap m₀) (N : News h₀ env.locals s.heap news) (hj : J 0 m₀ news)
    (turn : ∀ (i : Nat) t m₁ nx h tk own, i < n → OwnOff own (nx.map (·.1)) → J i m₁ nx → Fr h₀ env.locals h (fun y => if y = x then some (.int (i : Int) t) else m₁ y) → News h₀ env.locals h (nx ++ own) →
      wpAny (model prog w) A (execs body env) (InvPostG h₀ env.locals (J (i + 1)) own { s with heap := h, toks := tk } Q) E { s with heap := h, toks := tk })
    (done : ∀ m₁ nx h tk, J n m₁ nx → Fr h₀ env.locals h m₁ → News h₀ env.locals h nx → Q .next { s with heap := h, toks := tk }) :
    wpAny (model prog w) A (pyIter (.ref r)) (fun it s₂ => LoopAtV prog w A h₀ env x body Q E it s₂) E s := by
  have hsz : Builtin.Range.rangeSize 0 (n : Int) 1 = (n : Int) := by
    have := rangeSize_nat 0 n
    simpa using this
  refine wpAny_pyIter_range hr (small_one (by omega) (by omega) (by omega) (by omega)) ?_
  have W : Walks prog w A s.heap.objs.size [s.heap.objs.size] [s.heap.objs.size] n (fun i v => i < n ∧ ∃ t, v = .int ((0 : Int) + i * 1) t)
      (fun i h => IsRangeIter h s.heap.objs.size ((0 : Int) + (i : Nat) * 1) ((n : Int) - (i : Nat)) 1) := (Walks.range hh _ 0 1 n).bound
  refine kdr_loop J W (fun _ h => h) (fun _ h => h) ?_ ?_ ?_ ?_ (by show IsRangeIter _ _ _ _ _; rw [hsz]; simpa using Heap.get?_push_size _ rfl) (F.push _) (fun p hp => ⟨Heap.get?_push_of_some _ (N p hp).1, (N p hp).2⟩) hj ?_ ?_
  · intro i h hi b hb
    rw [List.mem_singleton.mp hb]
    exact ⟨_, hi⟩
  · intro hm
    exact absurd F.ns.lt ((List.mem_singleton.mp hm) ▸ Nat.lt_irrefl _)
  · intro b hb
    rw [List.mem_singleton.mp hb]
    exact next_is_new F
  · intro p hp hI
    exact absurd (Heap.lt_size (N p hp).1) ((List.mem_singleton.mp hI) ▸ Nat.lt_irrefl _)
  · rintro i v m₁ nx h tk own hi ⟨_, t, rfl⟩ hoff hJ F₁ N₁
    have e1 : (0 : Int) + (i : Int) * 1 = (i : Int) := by omega
    rw [e1] at F₁
    exact turn i t m₁ nx h tk own hi hoff hJ F₁ N₁
  · rintro m₁ nx h tk hJ F₁ N₁
    exact done m₁ nx h tk hJ F₁ N₁
theorem range_ro {r : Addr} {t₀ u₀ v₀ : Tok} {n : Nat} {m₀ : Vars} {news : Led} (P : Nat → Prop)
    (hh : A.handled = none) (hr : IsRange s.heap r 0 (n : Int) 1 t₀ u₀ v₀) (hn : n < 2 ^ 40) (F : Fr h₀ env.locals s.heap m₀) (N : News h₀ env.locals s.heap news) (h0 : P 0)
    (turn : ∀ (i : Nat) t h tk nx, i < n → P i → (∀ p ∈ news, p ∈ nx) → Fr h₀ env.locals h (fun y => if y = x then some (.int (i : Int) t) else m₀ y) → News h₀ env.locals h nx →
      wpAny (model prog w) A (execs body env) (RoEnd h₀ env.locals x m₀ nx (P (i + 1)) s Q) E { s with heap := h, toks := tk })
    (done : ∀ v' h tk, P n → Fr h₀ env.locals h (fun y => if y = x then v' else m₀ y) → News h₀ env.locals h news → Q .next { s with heap := h, toks := tk }) :
    wpAny (model prog w) A (pyIter (.ref r)) (fun it s₂ => LoopAtV prog w A h₀ env x body Q E it s₂) E s := by
  refine range_G (news := news) (fun i m nx => nx = news ∧ P i ∧ ∀ z, z ≠ x → m z = m₀ z) hh hr hn F N ⟨rfl, h0, fun _ _ => rfl⟩ ?_ ?_
  · rintro i t m₁ nx h tk own hi hoff ⟨rfl, hp, hm⟩ F₁ N₁
    rw [vars_at hm] at F₁
    refine wpAny_mono (turn i t h tk (nx ++ own) hi hp (fun p hp => List.mem_append_left _ hp) F₁ N₁) (fun f s₂ q => ?_) fun _ _ e => e
    have up : RoEnd h₀ env.locals x m₀ (nx ++ own) (P (i + 1)) s Q .next s₂ → InvEndG h₀ env.locals (fun m nx' => nx' = nx ∧ P (i + 1) ∧ ∀ z, z ≠ x → m z = m₀ z) own { s with heap := h, toks := tk } s₂ := by
      rintro ⟨hp', h', tk', m', rfl, F', hm', N'⟩
      exact ⟨h', tk', m', nx ++ own, nx, rfl, F', N', fun p hp => List.mem_append_left _ hp, fun p hp => List.mem_append_right _ hp, hoff, rfl, hp', hm'⟩
    cases f with
    | ret v => exact q
    | brk => exact q
    | next => exact up q
    | cont => exact up q
  · rintro m₁ nx h tk ⟨rfl, hp, hm⟩ F₁ N₁
    rw [vars_out hm] at F₁
    exact done _ h tk hp F₁ N₁
theorem list_ro {l : Addr} {vs : List Value} {nn : Nat} {m₀ : Vars} {news : Led} (P : Nat → Prop)
    (hh : A.handled = none) (hl : (l, listOf vs.toArray nn) ∈ news) (F : Fr h₀ env.locals s.heap m₀) (N : News h₀ env.locals s.heap news) (h0 : P 0)
    (turn : ∀ (i : Nat) v h tk nx, vs[i]? = some v → P i → (∀ p ∈ news, p ∈ nx) → Fr h₀ env.locals h (fun y => if y = x then some v else m₀ y) → News h₀ env.locals h nx →
      wpAny (model prog w) A (execs body env) (RoEnd h₀ env.locals x m₀ nx (P (i + 1)) s Q) E { s with heap := h, toks := tk })
    (done : ∀ v' h tk, P vs.length → Fr h₀ env.locals h (fun y => if y = x then v' else m₀ y) → News h₀ env.locals h news → Q .next { s with heap := h, toks := tk }) :
    wpAny (model prog w) A (pyIter (.ref l)) (fun it s₂ => LoopAtV prog w A h₀ env x body Q E it s₂) E s := by
  refine kdl_iter (news := news) (fun i m nx => nx = news ∧ P i ∧ ∀ z, z ≠ x → m z = m₀ z) hh hl F N ⟨rfl, h0, fun _ _ => rfl⟩ ?_ ?_
  · rintro i v m₁ nx h tk own hv hoff hl' ⟨rfl, hp, hm⟩ F₁ N₁
    rw [vars_at hm] at F₁
    refine wpAny_mono (turn i v h tk (nx ++ own) hv hp (fun p hp => List.mem_append_left _ hp) F₁ N₁) (fun f s₂ q => ?_) fun _ _ e => e
    have up : RoEnd h₀ env.locals x m₀ (nx ++ own) (P (i + 1)) s Q .next s₂ → InvEndG h₀ env.locals (fun m nx' => (l, listOf vs.toArray nn) ∈ nx' ∧ nx' = nx ∧ P (i + 1) ∧ ∀ z, z ≠ x → m z = m₀ z) own { s with heap := h, toks := tk } s₂ := by
      rintro ⟨hp', h', tk', m', rfl, F', hm', N'⟩
      exact ⟨h', tk', m', nx ++ own, nx, rfl, F', N', fun p hp => List.mem_append_left _ hp, fun p hp => List.mem_append_right _ hp, hoff, hl', rfl, hp', hm'⟩
    cases f with
    | ret v => exact q
    | brk => exact q
    | next => exact up q
    | cont => exact up q
  · rintro m₁ nx h tk ⟨rfl, hp, hm⟩ F₁ N₁
    rw [vars_out hm] at F₁
    exact done _ h tk hp F₁ N₁
/-- a turn of a loop that appends a fresh tuple to the list fl -/
def BuildEnd (h₀ : Heap) (L : Addr) (x : Str) (m₀ : Vars) (fl : Addr) (vs : List Value) (rest : Led) (R : Led → Value → Prop) (s : Shared) (Q : Flow → Shared → Prop) (f : Flow) (s₂ : Shared) : Prop :=
  match f with
  | .ret v => Q (.ret v) s₂
  | .brk => Q .next s₂
  | _ => ∃ h' tk' m' v a o c', s₂ = { s with heap := h', toks := tk' } ∧ Fr h₀ L h' m' ∧ (∀ z, z ≠ x → m' z = m₀ z) ∧ News h₀ L h' ((a, o) :: (fl, listOf (vs ++ [v]).toArray c') :: rest) ∧ R [(a, o)] v ∧ o.cls = .type "tuple" ∧ a ≠ fl ∧ ∀ q ∈ rest, q.1 ≠ a
theorem range_build {r fl : Addr} {t₀ u₀ v₀ : Tok} {n c₀ : Nat} {m₀ : Vars} {news : Led} (R : Led → Value → Nat → Prop) (hR : ∀ l l' v i, R l v i → (∀ p ∈ l, p ∈ l') → R l' v i)
    (hh : A.handled = none) (hr : IsRange s.heap r 0 (n : Int) 1 t₀ u₀ v₀) (hn : n < 2 ^ 40) (F : Fr h₀ env.locals s.heap m₀) (N : News h₀ env.locals s.heap ((fl, listOf #[] c₀) :: news)) (hfl : ∀ q ∈ news, q.1 ≠ fl)
    (turn : ∀ (i : Nat) t h tk vs cN rest, i < n → vs.length = i → (∀ p ∈ news, p ∈ rest) → (∀ q ∈ rest, q.1 ≠ fl) → Fr h₀ env.locals h (fun y => if y = x then some (.int (i : Int) t) else m₀ y) → News h₀ env.locals h ((fl, listOf (vs : List Value).toArray cN) :: rest) →
      wpAny (model prog w) A (execs body env) (BuildEnd h₀ env.locals x m₀ fl vs rest (fun l v => R l v i) s Q) E { s with heap := h, toks := tk })
    (done : ∀ v' h tk vs cN tl, All2 (R tl) vs (List.range n) → (∀ q ∈ tl, q.2.cls = .type "tuple") → (∀ q ∈ tl ++ news, q.1 ≠ fl) → Fr h₀ env.locals h (fun y => if y = x then v' else m₀ y) → News h₀ env.locals h ((fl, listOf (vs : List Value).toArray cN) :: (tl ++ news)) → Q .next { s with heap := h, toks := tk }) :
    wpAny (model prog w) A (pyIter (.ref r)) (fun it s₂ => LoopAtV prog w A h₀ env x body Q E it s₂) E s := by
  refine range_G (news := (fl, listOf #[] c₀) :: news) (fun i m nx => (∀ z, z ≠ x → m z = m₀ z) ∧ ∃ vs cN tl, nx = (fl, listOf (vs : List Value).toArray cN) :: (tl ++ news) ∧ All2 (R tl) vs (List.range i) ∧ (∀ q ∈ tl, q.2.cls = .type "tuple") ∧ (∀ q ∈ tl ++ news, q.1 ≠ fl)) hh hr hn F N
    ⟨fun _ _ => rfl, [], c₀, [], rfl, All2.nil, (fun _ h => nomatch h), hfl⟩ ?_ ?_
  · rintro i t m₁ nx h tk own hi hoff ⟨hm, vs, cN, tl, rfl, hA, ht, hf⟩ F₁ N₁
    rw [vars_at hm] at F₁
    have hvs : vs.length = i := by rw [hA.len, List.length_range]
    refine wpAny_mono (turn i t h tk vs cN ((tl ++ news) ++ own) hi hvs (fun p hp => List.mem_append_left _ (List.mem_append_right _ hp)) (fun q hq => ?_) F₁ (by simpa using N₁)) (fun f s₂ q => ?_) fun _ _ e => e
    · rcases List.mem_append.mp hq with hq | hq
      · exact hf q hq
      · exact hoff q hq fl (by simp)
    have up : BuildEnd h₀ env.locals x m₀ fl vs ((tl ++ news) ++ own) (fun l v => R l v i) s Q .next s₂ → InvEndG h₀ env.locals (fun m nx' => (∀ z, z ≠ x → m z = m₀ z) ∧ ∃ vs cN tl, nx' = (fl, listOf (vs : List Value).toArray cN) :: (tl ++ news) ∧ All2 (R tl) vs (List.range (i + 1)) ∧ (∀ q ∈ tl, q.2.cls = .type "tuple") ∧ (∀ q ∈ tl ++ news, q.1 ≠ fl)) own { s with heap := h, toks := tk } s₂ := by
      rintro ⟨h', tk', m', v, a, o, c', rfl, F', hm', N', hv, ho, ha, hq⟩
      refine ⟨h', tk', m', _, (fl, listOf (vs ++ [v]).toArray c') :: (((a, o) :: tl) ++ news), rfl, F', N', fun p hp => ?_, fun p hp => List.mem_cons_of_mem _ (List.mem_cons_of_mem _ (List.mem_append_right _ hp)), fun p hp b hb => ?_, hm', vs ++ [v], c', (a, o) :: tl, rfl, ?_, ?_, ?_⟩
      · rcases List.mem_cons.mp hp with rfl | hp
        · exact List.mem_cons_of_mem _ List.mem_cons_self
        · rcases List.mem_cons.mp hp with rfl | hp
          · exact List.mem_cons_self
          · exact List.mem_cons_of_mem _ (List.mem_cons_of_mem _ (List.mem_append_left _ hp))
      · have h0 := hoff p hp
        simp only [List.map_cons, List.map_append, List.cons_append, List.mem_cons, List.mem_append] at hb h0
        rcases hb with rfl | rfl | hb | hb
        · exact h0 _ (.inl rfl)
        · exact hq p (List.mem_append_right _ hp)
        · exact h0 _ (.inr (.inl hb))
        · exact h0 _ (.inr (.inr hb))
      · rw [List.range_succ]
        exact (hA.mono fun v i hv => hR _ _ _ _ hv fun p hp => List.mem_cons_of_mem _ hp).append (All2.one (hR _ _ _ _ hv fun p hp => by rw [List.mem_singleton.mp hp]; exact List.mem_cons_self))
      · intro q hq
        rcases List.mem_cons.mp hq with rfl | hq
        · exact ho
        · exact ht q hq
      · intro q hq
        rcases List.mem_append.mp hq with hq | hq
        · rcases List.mem_cons.mp hq with rfl | hq
          · exact ha
          · exact hf q (List.mem_append_left _ hq)
        · exact hf q (List.mem_append_right _ hq)
    cases f with
    | ret v => exact q
    | brk => exact q
    | next => exact up q
    | cont => exact up q
  · rintro m₁ nx h tk ⟨hm, vs, cN, tl, rfl, hA, ht, hf⟩ F₁ N₁
    rw [vars_out hm] at F₁
    exact done _ h tk vs cN tl hA ht hf F₁ N₁
end

end
section

open AutoSeq1 (wpAny_loadPart')
open PySem.SeqAt
theorem eqAt_by (A : Around) (s : Shared) (b c : By) (t u : Tok) : EqAt A s (.bytes b t) (.bytes c u) (decide (b = c)) := fun _ _ _ _ h => eqBool_by h
theorem eqAt_str (A : Around) (s : Shared) (b c : Str) (t u : Tok) : EqAt A s (.str b t) (.str c u) (decide (b = c)) := fun _ _ _ _ h => wpAny_eqBool_str h
theorem eqAt_int (A : Around) (s : Shared) (b c : Int) (t u : Tok) : EqAt A s (.int b t) (.int c u) (b == c) := fun _ _ _ _ h => wpAny_eqBool_int h
theorem tuple_gt2 (l b : Addr) (x y : By) (i j : Int) (t u t' u' : Tok) (n n2 : Nat) (dd dd2 : Option Addr) (sl sl2 : Array (Option Value)) :
    Meets (Builtin.«tuple.__gt__» ⟨[.ref l, .ref b], []⟩)
      (fun A R s => s.heap.get? l = some { cls := .type "tuple", dict := dd, data := .seq #[.bytes x t, .int i u] n, slots := sl } ∧ s.heap.get? b = some { cls := .type "tuple", dict := dd2, data := .seq #[.bytes y t', .int j u'] n2, slots := sl2 } ∧
        R (.ok (.ret (.bool (rowLt (y, j) (x, i))))) s) :=
  .of_wp fun prog w A R s h => by
    obtain ⟨hp, g, d, tk, os⟩ := s; obtain ⟨hl, hb, h⟩ := h
    have f2 := AutoSeq1.sub_tuple_tuple
    wp_walk using wpAny_loadPart' hl, wpAny_loadPart' hb, wpAny_forIn_list _ (fun rest b s' => b.1 = none ∧ s' = ⟨hp, g, d, tk, os⟩ ∧
      (rest = [(.bytes x t, .bytes y t'), (.int i u, .int j u')] ∨ (rest = [(.int i u, .int j u')] ∧ x = y) ∨ (rest = [] ∧ x = y ∧ i = j))) _
    case turn =>
      rintro ⟨v, v'⟩ rest b s' ⟨hb', rfl, hz⟩
      rcases hz with hz | ⟨hz, exy⟩ | ⟨hz, _⟩
      · injection hz with hyx hrest
        injection hyx with e1 e2
        subst e1; subst e2
        refine wpAny_bind (eqBool_by ?_)
        by_cases e : x = y
        · rw [decide_eq_true e]
          wp_walk
          exact ⟨rfl, rfl, .inr (.inl ⟨hrest, e⟩)⟩
        · rw [decide_eq_false e]
          simp only [Bool.not_false, if_true]
          refine wpAny_bind (wpAny_rule (wpAny_bind (gt_by (wpAny_pure ?_))))
          refine wpAny_pure ⟨_, rfl, ?_⟩
          have z : rowLt (y, j) (x, i) = blt y x := by simp [rowLt, Ne.symm e]
          rw [z] at h
          exact h
      · injection hz with hyx hrest
        injection hyx with e1 e2
        subst e1; subst e2
        refine wpAny_bind (wpAny_eqBool_int ?_)
        by_cases e : i = j
        · subst e
          simp only [beq_self_eq_true]
          wp_walk
          exact ⟨rfl, rfl, .inr (.inr ⟨hrest, exy, by simp⟩)⟩
        · have e' : (i == j) = false := by simp [e]
          rw [e']
          simp only [Bool.not_false, if_true]
          refine wpAny_bind (wpAny_rule (wpAny_bind (show wpAny _ _ (compareOp .Gt (.int i u) (.int j u')) _ _ _ from gt_int (wpAny_pure ?_))))
          refine wpAny_pure ⟨_, rfl, ?_⟩
          have z : rowLt (y, j) (x, i) = decide (j < i) := by simp [rowLt, exy, blt_irrefl]
          rw [z] at h
          exact h
      · cases hz
    case fin =>
      rintro ⟨b1, b2⟩ s' ⟨hb', rfl, hz⟩
      simp only at hb'
      subst hb'
      rcases hz with hz | ⟨hz, _⟩ | ⟨_, exy, eij⟩
      · cases hz
      · cases hz
      · refine wpAny_pure ⟨_, rfl, ?_⟩
        have z : rowLt (y, j) (x, i) = false := by simp [rowLt, exy, eij, blt_irrefl]
        rw [z] at h
        exact h
    case h => exact ⟨rfl, rfl, .inl rfl⟩
section
variable {prog : Program} {w : World} {A : Around} {E : Value → Shared → Prop} {s : Shared} {h₀ : Heap} {L a b : Addr} {news : Led} {Q : Value → Shared → Prop}
/-- a pair of bytes and an int above another -/
theorem gt_pair {x y : By} {i j : Int} {t u t' u' : Tok} {n n2 : Nat} (N : News h₀ L s.heap news) (ha : (a, tupOf #[.bytes x t, .int i u] n) ∈ news) (hb : (b, tupOf #[.bytes y t', .int j u'] n2) ∈ news) (hu : A.units < cLine)
    (h : Q (.bool (rowLt (y, j) (x, i))) s) : wpAny (model prog w) A (compareOp .Gt (.ref a) (.ref b)) Q E s := by
  refine cmp_ofGt ?_
  have ha' := (N _ ha).1
  have hb' := (N _ hb).1
  exact richCompare_meets_room (op := .Gt) ⟨_, ha', rfl⟩ ⟨_, hb', rfl⟩ F.slot_tuple_gt F.entry_tuple_gt (F.args_tuple_gt_2 _ _) (tuple_gt2 a b x y i j t u t' u' n n2 none none #[] #[])
    ⟨ha', hb', show Value.bool (rowLt (y, j) (x, i)) ≠ Value.notImplemented ∧ Q (.bool (rowLt (y, j) (x, i))) s from ⟨(fun x => nomatch x), h⟩⟩ hu
theorem isL {xs : Array Value} {n : Nat} (N : News h₀ L s.heap news) (ha : (a, listOf xs n) ∈ news) : s.heap.IsList a xs := ⟨_, (N _ ha).1, rfl, n, rfl⟩
theorem isT {xs : Array Value} {n : Nat} (N : News h₀ L s.heap news) (ha : (a, tupOf xs n) ∈ news) : s.heap.IsTuple a xs := ⟨_, (N _ ha).1, rfl, n, rfl⟩
theorem ne_nil {xs : Array Value} {n n2 : Nat} (N : News h₀ L s.heap news) (ha : (a, listOf xs n) ∈ news) (hb : (b, listOf #[] n2) ∈ news) (hu : A.units < cLine) (h : Q (.bool (!decide (xs.size = 0))) s) :
    wpAny (model prog w) A (compareOp .NotEq (.ref a) (.ref b)) Q E s := by
  refine cmp_ofNotEq ?_
  by_cases e : xs.size = 0
  · have z := RcNeAt.lists (A := A) (e := fun _ => true) (isL N ha) (isL N hb) (by simpa using e) hu (fun j h1 h2 => absurd h2 (Nat.not_lt_zero _)) prog w E Q
    refine z ?_
    rw [decide_eq_true e] at h
    rw [e]
    simpa using h
  · refine RcNeAt.lists_lengths (A := A) (isL N ha) (isL N hb) (by simpa using e) hu prog w E Q ?_
    rw [decide_eq_false e] at h
    exact h
theorem eq_nil {xs : Array Value} {n n2 : Nat} (N : News h₀ L s.heap news) (ha : (a, listOf xs n) ∈ news) (hb : (b, listOf #[] n2) ∈ news) (hu : A.units < cLine) (h : Q (.bool (decide (xs.size = 0))) s) :
    wpAny (model prog w) A (compareOp .Eq (.ref a) (.ref b)) Q E s := by
  by_cases e : xs.size = 0
  · refine eq_listAt (e := fun _ => true) (isL N ha) (isL N hb) (by simpa using e) hu (fun j h1 h2 => absurd h2 (Nat.not_lt_zero _)) ?_
    rw [decide_eq_true e] at h
    rw [e]
    simpa using h
  · refine eq_list_lengthsAt (isL N ha) (isL N hb) (by simpa using e) hu ?_
    rw [decide_eq_false e] at h
    exact h
/-- a value that is bytes -/
def IsB (v : Value) (b : By) : Prop := ∃ t, v = .bytes b t
theorem bys_all {xs ys : List Value} {bs cs : List By} (hx : All2 IsB xs bs) (hy : All2 IsB ys cs) (hl : xs.length = ys.length) : (List.range xs.toArray.size).all (fun j => decide (bs[j]? = cs[j]?)) = decide (bs = cs) := by
  rw [Bool.eq_iff_iff]
  simp only [List.all_eq_true, List.mem_range, decide_eq_true_eq, List.size_toArray]
  constructor
  · intro h
    apply List.ext_getElem?
    intro i
    by_cases hi : i < xs.length
    · exact h i hi
    · have h1 := hx.len
      have h2 := hy.len
      rw [List.getElem?_eq_none (by omega), List.getElem?_eq_none (by omega)]
  · rintro rfl i _
    rfl
theorem bys_at (A : Around) (s : Shared) {xs ys : List Value} {bs cs : List By} (hx : All2 IsB xs bs) (hy : All2 IsB ys cs) : ∀ j (h1 : j < xs.toArray.size) (h2 : j < ys.toArray.size), EqAt A s xs.toArray[j] ys.toArray[j] (decide (bs[j]? = cs[j]?)) := by
  intro j h1 h2
  have h1' : j < xs.length := by simpa using h1
  have h2' : j < ys.length := by simpa using h2
  obtain ⟨b, hb, t, e⟩ := hx.get' (List.getElem?_eq_getElem h1')
  obtain ⟨c, hc, u, e'⟩ := hy.get' (List.getElem?_eq_getElem h2')
  have e1 : xs.toArray[j] = .bytes b t := by rw [List.getElem_toArray]; exact e
  have e2 : ys.toArray[j] = .bytes c u := by rw [List.getElem_toArray]; exact e'
  rw [e1, e2, hb, hc]
  simp only [Option.some.injEq]
  exact eqAt_by A s b c t u
theorem ne_bys {xs ys : List Value} {bs cs : List By} {n n2 : Nat} (N : News h₀ L s.heap news) (ha : (a, listOf xs.toArray n) ∈ news) (hb : (b, listOf ys.toArray n2) ∈ news) (hx : All2 IsB xs bs) (hy : All2 IsB ys cs) (hu : A.units < cLine) (h : Q (.bool (!decide (bs = cs))) s) :
    wpAny (model prog w) A (compareOp .NotEq (.ref a) (.ref b)) Q E s := by
  refine cmp_ofNotEq ?_
  by_cases e : xs.length = ys.length
  · refine RcNeAt.lists (A := A) (isL N ha) (isL N hb) (by simpa using e) hu (bys_at _ _ hx hy) prog w E Q ?_
    rw [bys_all hx hy e]
    exact h
  · refine RcNeAt.lists_lengths (A := A) (isL N ha) (isL N hb) (by simpa using e) hu prog w E Q ?_
    rw [decide_eq_false (fun q => e (by rw [hx.len, hy.len, q]))] at h
    exact h
theorem eq_bys {xs ys : List Value} {bs cs : List By} {n n2 : Nat} (N : News h₀ L s.heap news) (ha : (a, listOf xs.toArray n) ∈ news) (hb : (b, listOf ys.toArray n2) ∈ news) (hx : All2 IsB xs bs) (hy : All2 IsB ys cs) (hu : A.units < cLine) (h : Q (.bool (decide (bs = cs))) s) :
    wpAny (model prog w) A (compareOp .Eq (.ref a) (.ref b)) Q E s := by
  by_cases e : xs.length = ys.length
  · refine eq_listAt (isL N ha) (isL N hb) (by simpa using e) hu (bys_at _ _ hx hy) ?_
    rw [bys_all hx hy e]
    exact h
  · refine eq_list_lengthsAt (isL N ha) (isL N hb) (by simpa using e) hu ?_
    rw [decide_eq_false (fun q => e (by rw [hx.len, hy.len, q]))] at h
    exact h
/-- is the value these bytes -/
def isBy (b : By) : Value → Bool
  | .bytes c _ => decide (c = b)
  | _ => false
theorem any_by {xs : List Value} {bs : List By} {b : By} (hx : All2 IsB xs bs) : xs.toArray.any (isBy b) = decide (b ∈ bs) := by
  rw [Bool.eq_iff_iff]
  simp only [List.any_toArray, List.any_eq_true, decide_eq_true_eq]
  constructor
  · rintro ⟨v, hv, he⟩
    obtain ⟨i, hi, rfl⟩ := List.mem_iff_getElem.mp hv
    obtain ⟨c, hc, t, e⟩ := hx.get' (List.getElem?_eq_getElem hi)
    rw [e] at he
    have : c = b := by simpa [isBy] using he
    rw [← this]
    exact List.mem_of_getElem? hc
  · intro hb
    obtain ⟨i, hi, rfl⟩ := List.mem_iff_getElem.mp hb
    obtain ⟨v, hv, t, e⟩ := hx.get (List.getElem?_eq_getElem hi)
    exact ⟨v, List.mem_of_getElem? hv, by rw [e]; simp [isBy]⟩
theorem any_at (A : Around) (s : Shared) {xs : List Value} {bs : List By} {b : By} {t : Tok} (hx : All2 IsB xs bs) : ∀ y, y ∈ xs.toArray → EqAt A s y (.bytes b t) (isBy b y) := by
  intro y hy
  have hy' : y ∈ xs := by simpa using hy
  obtain ⟨i, hi, rfl⟩ := List.mem_iff_getElem.mp hy'
  obtain ⟨c, hc, t, e⟩ := hx.get' (List.getElem?_eq_getElem hi)
  rw [e]
  exact eqAt_by A s c b _ _
theorem in_bys {xs : List Value} {bs : List By} {x : By} {t : Tok} {n : Nat} (N : News h₀ L s.heap news) (ha : (a, listOf xs.toArray n) ∈ news) (hx : All2 IsB xs bs) (h : Q (.bool (decide (x ∈ bs))) s) :
    wpAny (model prog w) A (compareOp .In (.bytes x t) (.ref a)) Q E s :=
  in_listAt (isBy x) (isL N ha) (any_at _ _ hx) (by rw [any_by hx]; exact h)
theorem notIn_bys {xs : List Value} {bs : List By} {x : By} {t : Tok} {n : Nat} (N : News h₀ L s.heap news) (ha : (a, listOf xs.toArray n) ∈ news) (hx : All2 IsB xs bs) (h : Q (.bool (!decide (x ∈ bs))) s) :
    wpAny (model prog w) A (compareOp .NotIn (.bytes x t) (.ref a)) Q E s :=
  notIn_listAt (isBy x) (isL N ha) (any_at _ _ hx) (by rw [any_by hx]; exact h)
/-- two pairs unlike -/
theorem ne_pair {p q p' q' : Value} {e₁ e₂ : Bool} {n n2 : Nat} (N : News h₀ L s.heap news) (ha : (a, tupOf #[p, q] n) ∈ news) (hb : (b, tupOf #[p', q'] n2) ∈ news) (hu : A.units < cLine) (h1 : EqAt A.in1 s p p' e₁) (h2 : EqAt A.in1 s q q' e₂) (h : Q (.bool (!(e₁ && e₂))) s) :
    wpAny (model prog w) A (compareOp .NotEq (.ref a) (.ref b)) Q E s := by
  refine cmp_ofNotEq (RcNeAt.tuples (A := A) (e := fun j => if j = 0 then e₁ else e₂) (isT N ha) (isT N hb) hu (fun j h1' h2' => ?_) prog w E Q ?_)
  · match j, h1' with
    | 0, _ => exact h1
    | 1, _ => exact h2
  · show Q (.bool (!((List.range 2).all (fun j => if j = 0 then e₁ else e₂) && (2 == 2)))) s
    simpa [List.range_succ] using h
end

end
section

open PyProof.Rows.LCg
section
variable {prog : Program} {w : World} {A : Around} {s : Shared} {h₀ : Heap} {L : Addr} {m : Vars} {env : Env} {elt ct : Expr} {x : Str} {scope : Scope} {cl : List (Str × Addr)} {S : Led → Prop} {P : Nat → Value → Prop} {Fin : List Value → Led → Prop} {n : Nat}
/-- a comprehension by any word over turn, values and ledger -/
theorem comp_G (J : Nat → List Value → Led → Prop) (fin : ∀ ys nw, J n ys nw → Fin ys nw)
    (turn : ∀ i v ys nw I oI C oC D m₂ h tk (E' : Value → Shared → Prop), i < n → P i v → J i ys nw → NsObj oC m₂ → m₂ x = some v → Fr h₀ L h m → News h₀ L h ((I, oI) :: (C, oC) :: (D, lst ys) :: nw) → Off3 I C D nw → ((@Ne Nat I C) ∧ (@Ne Nat I D) ∧ (@Ne Nat C D)) →
      wpAny (model prog w) A (eval elt (compEnvC scope cl C env)) (CompEnd h₀ L m { s with heap := h, toks := tk } I oI C oC D (lst ys) S (fun y nw' => J (i + 1) (ys ++ [y]) nw')) E' { s with heap := h, toks := tk }) :
    ∀ (k i : Nat) (ys : List Value) (nw : Led), i + k = n → J i ys nw → CompRest prog w A h₀ L m env elt x scope cl s S P Fin k i ys nw
  | 0, i, ys, nw, hi, hJ => CompRest.zero (fin ys nw (by rw [← hi]; exact hJ))
  | k + 1, i, ys, nw, hi, hJ => by
    refine CompRest.succ fun v I oI C oC D m₂ h tk E' hP hC hx F N off ne => ?_
    refine wpAny_mono (turn i v ys nw I oI C oC D m₂ h tk E' (by omega) hP hJ hC hx F N off ne) (fun y s₂ hq => ?_) fun _ _ e => e
    obtain ⟨h', tk', nw', e, F', N', off', hS, hJ'⟩ := hq
    exact ⟨h', tk', nw', e, F', N', off', hS, comp_G J fin turn k (i + 1) _ nw' (by omega) hJ'⟩
/-- a turn of a comprehension that leaves the ledger alone -/
def CoEnd (h₀ : Heap) (L : Addr) (m : Vars) (nx : Led) (s : Shared) (Jn : Value → Prop) (y : Value) (s₂ : Shared) : Prop := ∃ h' tk', s₂ = { s with heap := h', toks := tk' } ∧ Fr h₀ L h' m ∧ News h₀ L h' nx ∧ Jn y
theorem comp_ro {news : Led} (J : Nat → List Value → Prop) (hS : S news) (h0 : J 0 []) (fin : ∀ ys, J n ys → Fin ys news)
    (turn : ∀ i v ys nx C oC m₂ h tk (E' : Value → Shared → Prop), i < n → P i v → J i ys → NsObj oC m₂ → m₂ x = some v → (C, oC) ∈ nx → (∀ p ∈ news, p ∈ nx) → Fr h₀ L h m → News h₀ L h nx →
      wpAny (model prog w) A (eval elt (compEnvC scope cl C env)) (CoEnd h₀ L m nx s (fun y => J (i + 1) (ys ++ [y]))) E' { s with heap := h, toks := tk }) :
    CompRest prog w A h₀ L m env elt x scope cl s S P Fin n 0 [] news := by
  refine comp_G (fun i ys nw => nw = news ∧ J i ys) (fun ys nw hJ => hJ.1 ▸ fin ys hJ.2) ?_ n 0 [] news (by omega) ⟨rfl, h0⟩
  rintro i v ys nw I oI C oC D m₂ h tk E' hi hP ⟨rfl, hJ⟩ hC hx F N off ne
  refine wpAny_mono (turn i v ys _ C oC m₂ h tk E' hi hP hJ hC hx (List.mem_cons_of_mem _ List.mem_cons_self) (fun p hp => List.mem_cons_of_mem _ (List.mem_cons_of_mem _ (List.mem_cons_of_mem _ hp))) F N) (fun y s₂ hq => ?_) fun _ _ e => e
  obtain ⟨h', tk', rfl, F', N', hJ'⟩ := hq
  exact ⟨h', tk', nw, rfl, F', N', off, hS, rfl, hJ'⟩
/-- a turn of a comprehension with a test -/
def CtEnd (h₀ : Heap) (L : Addr) (m : Vars) (nx : Led) (s : Shared) (no : Prop) (yes : Shared → Prop) (ok : Bool) (s₂ : Shared) : Prop := ∃ h' tk', s₂ = { s with heap := h', toks := tk' } ∧ Fr h₀ L h' m ∧ News h₀ L h' nx ∧ (ok = true → yes s₂) ∧ (ok = false → no)
theorem compT_ro {news : Led} (J : Nat → List Value → Prop) (hS : S news) (fin : ∀ ys, J n ys → Fin ys news)
    (turn : ∀ i v ys nx C oC m₂ h tk (E' : Value → Shared → Prop), i < n → P i v → J i ys → NsObj oC m₂ → m₂ x = some v → (C, oC) ∈ nx → (∀ p ∈ news, p ∈ nx) → Fr h₀ L h m → News h₀ L h nx →
      wpAny (model prog w) A (isTrue ct (compEnvC scope cl C env) (eval ct (compEnvC scope cl C env))) (CtEnd h₀ L m nx s (J (i + 1) ys) (fun s' => wpAny (model prog w) A (eval elt (compEnvC scope cl C env)) (CoEnd h₀ L m nx s (fun y => J (i + 1) (ys ++ [y]))) E' s')) E' { s with heap := h, toks := tk }) :
    ∀ (k i : Nat) (ys : List Value), i + k = n → J i ys → LCt.CompRestT prog w A h₀ L m env ct elt x scope cl s S P Fin k i ys news
  | 0, i, ys, hi, hJ => LCt.CompRestT.zero (fin ys (by rw [← hi]; exact hJ))
  | k + 1, i, ys, hi, hJ => by
    refine LCt.CompRestT.succ fun v I oI C oC D m₂ h tk E' hP hC hx F N off ne => ?_
    refine wpAny_mono (turn i v ys _ C oC m₂ h tk E' (by omega) hP hJ hC hx (List.mem_cons_of_mem _ List.mem_cons_self) (fun p hp => List.mem_cons_of_mem _ (List.mem_cons_of_mem _ (List.mem_cons_of_mem _ hp))) F N) (fun ok s₂ hq => ?_) fun _ _ e => e
    obtain ⟨h', tk', rfl, F', N', hy, hn⟩ := hq
    cases ok with
    | false => exact ⟨h', tk', news, rfl, F', N', off, hS, compT_ro J hS fin turn k (i + 1) ys (by omega) (hn rfl)⟩
    | true =>
      refine wpAny_mono (hy rfl) (fun y s₃ hz => ?_) fun _ _ e => e
      obtain ⟨h3, tk3, rfl, F3, N3, hJ3⟩ := hz
      exact ⟨h3, tk3, news, rfl, F3, N3, off, hS, compT_ro J hS fin turn k (i + 1) _ (by omega) hJ3⟩
/-- [v for v in vs if ..] over a list whose items are told -/
theorem compT_filter {α : Type} {news l₀ : Led} {R : Led → Value → α → Prop} (hR : ∀ l l' v a, R l v a → (∀ q ∈ l, q ∈ l') → R l' v a) {vs : List Value} {as : List α} (hA : All2 (R l₀) vs as) (hl : ∀ q ∈ l₀, q ∈ news) (pz : α → Bool) (hS : S news)
    (fin : ∀ ys, All2 (R l₀) ys (as.filter pz) → Fin ys news)
    (turn : ∀ (i : Nat) a v nx C oC m₂ h tk (E' : Value → Shared → Prop), as[i]? = some a → R nx v a → NsObj oC m₂ → m₂ x = some v → (C, oC) ∈ nx → (∀ p ∈ news, p ∈ nx) → Fr h₀ L h m → News h₀ L h nx →
      wpAny (model prog w) A (isTrue ct (compEnvC scope cl C env) (eval ct (compEnvC scope cl C env))) (CtEnd h₀ L m nx s (pz a = false) (fun s' => pz a = true ∧ wpAny (model prog w) A (eval elt (compEnvC scope cl C env)) (CoEnd h₀ L m nx s (fun y => y = v)) E' s')) E' { s with heap := h, toks := tk }) :
    LCt.CompRestT prog w A h₀ L m env ct elt x scope cl s S (fun i v => vs.toArray[i]? = some v) Fin vs.toArray.size 0 [] news := by
  refine compT_ro (n := vs.toArray.size) (fun i ys => All2 (R l₀) ys ((as.take i).filter pz)) hS (fun ys hJ => fin ys ?_) ?_ _ 0 [] (by omega) (by simpa using All2.nil)
  · rw [List.size_toArray, hA.len, List.take_length] at hJ; exact hJ
  · intro i v ys nx C oC m₂ h tk E' hi hP hJ hC hx hm hsub F N
    have hv : vs[i]? = some v := by simpa using hP
    obtain ⟨a, ha, hr⟩ := hA.get' hv
    have ht : as.take (i + 1) = as.take i ++ [a] := by rw [List.take_add_one, ha]; rfl
    refine wpAny_mono (turn i a v nx C oC m₂ h tk E' ha (hR _ _ _ _ hr fun q hq => hsub q (hl q hq)) hC hx hm hsub F N) (fun ok s₂ hq => ?_) fun _ _ e => e
    obtain ⟨h', tk', rfl, F', N', hy, hn⟩ := hq
    refine ⟨h', tk', rfl, F', N', fun e => ?_, fun e => ?_⟩
    · obtain ⟨hz, hw⟩ := hy e
      refine wpAny_mono hw (fun y s₃ hq3 => ?_) fun _ _ e => e
      obtain ⟨h3, tk3, rfl, F3, N3, rfl⟩ := hq3
      refine ⟨h3, tk3, rfl, F3, N3, ?_⟩
      rw [ht, List.filter_append]
      simp only [List.filter_cons, hz, if_true, List.filter_nil]
      exact hJ.append (All2.one hr)
    · rw [ht, List.filter_append]
      simp only [List.filter_cons, hn e, Bool.false_eq_true, if_false, List.filter_nil, List.append_nil]
      exact hJ
/-- [f(v) for v in vs], the ledger left alone -/
theorem comp_map {α β : Type} {news : Led} {R : Value → α → Prop} {R' : Value → β → Prop} (f : α → β) {vs : List Value} {as : List α} (hA : All2 R vs as) (hS : S news) (fin : ∀ ys, All2 R' ys (as.map f) → Fin ys news)
    (turn : ∀ (i : Nat) a v nx C oC m₂ h tk (E' : Value → Shared → Prop), as[i]? = some a → R v a → NsObj oC m₂ → m₂ x = some v → (C, oC) ∈ nx → (∀ p ∈ news, p ∈ nx) → Fr h₀ L h m → News h₀ L h nx →
      wpAny (model prog w) A (eval elt (compEnvC scope cl C env)) (CoEnd h₀ L m nx s (fun y => R' y (f a))) E' { s with heap := h, toks := tk }) :
    CompRest prog w A h₀ L m env elt x scope cl s S (fun i v => vs.toArray[i]? = some v) Fin vs.toArray.size 0 [] news := by
  refine comp_ro (n := vs.toArray.size) (fun i ys => All2 R' ys ((as.take i).map f)) hS (by simpa using All2.nil) (fun ys hJ => fin ys ?_) ?_
  · rw [List.size_toArray, hA.len, List.take_length] at hJ; exact hJ
  · intro i v ys nx C oC m₂ h tk E' hi hP hJ hC hx hm hsub F N
    have hv : vs[i]? = some v := by simpa using hP
    obtain ⟨a, ha, hr⟩ := hA.get' hv
    have ht : as.take (i + 1) = as.take i ++ [a] := by rw [List.take_add_one, ha]; rfl
    refine wpAny_mono (turn i a v nx C oC m₂ h tk E' ha hr hC hx hm hsub F N) (fun y s₂ hq => ?_) fun _ _ e => e
    obtain ⟨h', tk', rfl, F', N', hy⟩ := hq
    refine ⟨h', tk', rfl, F', N', ?_⟩
    rw [ht, List.map_append]
    exact hJ.append (All2.one hy)
end

end
section

section
variable {prog : Program} {w : World} {A : Around} {E : Value → Shared → Prop} {s : Shared} {env : Env} {h₀ : Heap} {x : Str} {body : List Stmt} {Q : Flow → Shared → Prop}
/-- a search: a turn leaves the loop where pz holds, and goes on where it does not -/
theorem list_search {α : Type} {l : Addr} {vs : List Value} {as : List α} {nn : Nat} {m₀ : Vars} {news l₀ : Led} {R : Led → Value → α → Prop} (hh : A.handled = none) (F : Fr h₀ env.locals s.heap m₀) (N : News h₀ env.locals s.heap news) (hl : (l, listOf vs.toArray nn) ∈ news)
    (hR : ∀ l l' v a, R l v a → (∀ q ∈ l, q ∈ l') → R l' v a) (hA : All2 (R l₀) vs as) (hl₀ : ∀ q ∈ l₀, q ∈ news) (pz : α → Bool)
    (turn : ∀ (i : Nat) a v h tk nx, as[i]? = some a → (∀ (j : Nat) b, j < i → as[j]? = some b → pz b = false) → R nx v a → (∀ p ∈ news, p ∈ nx) → Fr h₀ env.locals h (fun y => if y = x then some v else m₀ y) → News h₀ env.locals h nx →
      wpAny (model prog w) A (execs body env) (RoEnd h₀ env.locals x m₀ nx (pz a = false) s Q) E { s with heap := h, toks := tk })
    (done : ∀ v' h tk, (∀ a ∈ as, pz a = false) → Fr h₀ env.locals h (fun y => if y = x then v' else m₀ y) → News h₀ env.locals h news → Q .next { s with heap := h, toks := tk }) :
    wpAny (model prog w) A (pyIter (.ref l)) (fun it s₂ => LoopAtV prog w A h₀ env x body Q E it s₂) E s := by
  refine list_ro (fun i => ∀ (j : Nat) b, j < i → as[j]? = some b → pz b = false) hh hl F N (fun j b hj _ => absurd hj (Nat.not_lt_zero _)) ?_ ?_
  · intro i v h tk nx hv hP hsub F₁ N₁
    obtain ⟨a, ha, hr⟩ := hA.get' hv
    refine wpAny_mono (turn i a v h tk nx ha hP (hR _ _ _ _ hr fun q hq => hsub q (hl₀ q hq)) hsub F₁ N₁) (fun f s₂ q => ?_) fun _ _ e => e
    have up : RoEnd h₀ env.locals x m₀ nx (pz a = false) s Q .next s₂ → RoEnd h₀ env.locals x m₀ nx (∀ (j : Nat) b, j < i + 1 → as[j]? = some b → pz b = false) s Q .next s₂ := by
      rintro ⟨hz, r⟩
      refine ⟨fun j b hj hb => ?_, r⟩
      by_cases e : j = i
      · subst e
        rw [ha] at hb
        exact (Option.some.inj hb) ▸ hz
      · exact hP j b (by omega) hb
    cases f with
    | ret v => exact q
    | brk => exact q
    | next => exact up q
    | cont => exact up q
  · intro v' h tk hP F₁ N₁
    refine done v' h tk (fun a ha => ?_) F₁ N₁
    obtain ⟨j, hj, rfl⟩ := List.mem_iff_getElem.mp ha
    exact hP j _ (by rw [hA.len]; exact hj) (List.getElem?_eq_getElem hj)
/-- unlike classes, unlike places -/
theorem ne_cls {h₀ h : Heap} {L a b : Addr} {o o' : Obj} {news : Led} (N : News h₀ L h news) (ha : (a, o) ∈ news) (hb : (b, o') ∈ news) (hc : o.cls ≠ o'.cls) : a ≠ b := fun e => by
  subst e
  have h1 := (N _ ha).1
  have h2 := (N _ hb).1
  have e : o = o' := Option.some.inj (h1.symm.trans h2)
  exact hc (by rw [e])
/-- the first row of the sorted ones that is above, is the least of all that are above -/
theorem least_of {n : Nat} {g : Nat → By × Int} {p : List Nat} {pz : Nat → Bool} (hp : p.Perm (List.range n)) (hw : (p.map g).Pairwise (fun a b => rowLt a b = true)) {i a : Nat} (ha : p[i]? = some a) (hb : ∀ (j : Nat) b, j < i → p[j]? = some b → pz b = false) :
    a < n ∧ ∀ b, b < n → pz b = true → b = a ∨ rowLt (g a) (g b) = true := by
  refine ⟨List.mem_range.mp (hp.mem_iff.mp (List.mem_of_getElem? ha)), fun b hbn hz => ?_⟩
  have hm : b ∈ p := hp.mem_iff.mpr (List.mem_range.mpr hbn)
  obtain ⟨j, hj, rfl⟩ := List.mem_iff_getElem.mp hm
  have hi : i < p.length := (List.getElem?_eq_some_iff.mp ha).1
  have hai : p[i] = a := (List.getElem?_eq_some_iff.mp ha).2
  rcases Nat.lt_trichotomy j i with h | h | h
  · exact absurd (hb j _ h (List.getElem?_eq_getElem hj)) (by rw [hz]; decide)
  · subst h; exact .inl hai
  · right
    rw [List.pairwise_map] at hw
    have := List.pairwise_iff_getElem.mp hw i j hi hj h
    rw [hai] at this
    exact this
/-- text in a tuple of two texts -/
theorem notIn_two {a : Addr} {x p q : Str} {t t1 t2 : Tok} {n : Nat} {Q : Value → Shared → Prop} (ha : s.heap.get? a = some (⟨.type "tuple", none, .seq #[.str p t1, .str q t2] n, #[]⟩ : Obj)) (h : Q (.bool (!(decide (p = x) || decide (q = x)))) s) :
    wpAny (model prog w) A (compareOp .NotIn (.str x t) (.ref a)) Q E s := by
  refine SeqAt.notIn_tupleAt (fun v => match v with | .str y _ => decide (y = x) | _ => false) ⟨_, ha, rfl, n, rfl⟩ (fun y hy => ?_) (by simpa using h)
  have hy' : y = .str p t1 ∨ y = .str q t2 := by simpa using hy
  rcases hy' with rfl | rfl
  · exact eqAt_str _ _ _ _ _ _
  · exact eqAt_str _ _ _ _ _ _
theorem in_two {a : Addr} {x p q : Str} {t t1 t2 : Tok} {n : Nat} {Q : Value → Shared → Prop} (ha : s.heap.get? a = some (⟨.type "tuple", none, .seq #[.str p t1, .str q t2] n, #[]⟩ : Obj)) (h : Q (.bool (decide (p = x) || decide (q = x))) s) :
    wpAny (model prog w) A (compareOp .In (.str x t) (.ref a)) Q E s := by
  refine SeqAt.in_tupleAt (fun v => match v with | .str y _ => decide (y = x) | _ => false) ⟨_, ha, rfl, n, rfl⟩ (fun y hy => ?_) (by simpa using h)
  have hy' : y = .str p t1 ∨ y = .str q t2 := by simpa using hy
  rcases hy' with rfl | rfl
  · exact eqAt_str _ _ _ _ _ _
  · exact eqAt_str _ _ _ _ _ _
end

end
section

theorem vars_at2 {m m₀ : Vars} {x yv : Str} {v : Option Value} (hm : ∀ z, z ≠ x → z ≠ yv → m z = m₀ z) : (fun y => if y = x then v else m y) = (fun y => if y = x then v else if y = yv then m yv else m₀ y) := by
  funext z
  by_cases e : z = x
  · rw [if_pos e, if_pos e]
  · rw [if_neg e, if_neg e]
    by_cases f : z = yv
    · rw [if_pos f, f]
    · rw [if_neg f, hm z e f]
theorem vars_out2 {m m₀ : Vars} {x yv : Str} (hm : ∀ z, z ≠ x → z ≠ yv → m z = m₀ z) : m = (fun y => if y = x then m x else if y = yv then m yv else m₀ y) := by
  funext z
  by_cases e : z = x
  · rw [if_pos e, e]
  · rw [if_neg e]
    by_cases f : z = yv
    · rw [if_pos f, f]
    · rw [if_neg f, hm z e f]
/-- RoEnd, and the variable yv may change too -/
def RoEnd2 (h₀ : Heap) (L : Addr) (x yv : Str) (m₀ : Vars) (nx : Led) (P : Prop) (s : Shared) (Q : Flow → Shared → Prop) (f : Flow) (s₂ : Shared) : Prop :=
  match f with
  | .ret v => Q (.ret v) s₂
  | .brk => Q .next s₂
  | _ => P ∧ ∃ h' tk' m', s₂ = { s with heap := h', toks := tk' } ∧ Fr h₀ L h' m' ∧ (∀ z, z ≠ x → z ≠ yv → m' z = m₀ z) ∧ News h₀ L h' nx
section
variable {prog : Program} {w : World} {A : Around} {E : Value → Shared → Prop} {s : Shared} {env : Env} {h₀ : Heap} {x yv : Str} {body : List Stmt} {Q : Flow → Shared → Prop}
theorem RoEnd2.next {h₀ : Heap} {L : Addr} {m₀ m' : Vars} {nx : Led} {P : Prop} {s : Shared} {h' : Heap} {tk' : Nat} (F : Fr h₀ L h' m') (N : News h₀ L h' nx) (hp : P) (hm : ∀ z, z ≠ x → z ≠ yv → m' z = m₀ z) :
    RoEnd2 h₀ L x yv m₀ nx P s Q .next { s with heap := h', toks := tk' } := ⟨hp, h', tk', m', rfl, F, hm, N⟩
theorem RoEnd2.ret {h₀ : Heap} {L : Addr} {m₀ : Vars} {nx : Led} {P : Prop} {s s₂ : Shared} {v : Value} (h : Q (.ret v) s₂) : RoEnd2 h₀ L x yv m₀ nx P s Q (.ret v) s₂ := h
theorem list_ro2 {l : Addr} {vs : List Value} {nn : Nat} {m₀ : Vars} {news : Led} {yv : Str} (P : Nat → Prop)
    (hh : A.handled = none) (hl : (l, listOf vs.toArray nn) ∈ news) (F : Fr h₀ env.locals s.heap m₀) (N : News h₀ env.locals s.heap news) (h0 : P 0)
    (turn : ∀ (i : Nat) v h tk nx py, vs[i]? = some v → P i → (∀ p ∈ news, p ∈ nx) → Fr h₀ env.locals h (fun y => if y = x then some v else if y = yv then py else m₀ y) → News h₀ env.locals h nx →
      wpAny (model prog w) A (execs body env) (RoEnd2 h₀ env.locals x yv m₀ nx (P (i + 1)) s Q) E { s with heap := h, toks := tk })
    (done : ∀ v' h tk py, P vs.length → Fr h₀ env.locals h (fun y => if y = x then v' else if y = yv then py else m₀ y) → News h₀ env.locals h news → Q .next { s with heap := h, toks := tk }) :
    wpAny (model prog w) A (pyIter (.ref l)) (fun it s₂ => LoopAtV prog w A h₀ env x body Q E it s₂) E s := by
  refine kdl_iter (news := news) (fun i m nx => nx = news ∧ P i ∧ ∀ z, z ≠ x → z ≠ yv → m z = m₀ z) hh hl F N ⟨rfl, h0, fun _ _ _ => rfl⟩ ?_ ?_
  · rintro i v m₁ nx h tk own hv hoff hl' ⟨rfl, hp, hm⟩ F₁ N₁
    rw [vars_at2 hm] at F₁
    refine wpAny_mono (turn i v h tk (nx ++ own) _ hv hp (fun p hp => List.mem_append_left _ hp) F₁ N₁) (fun f s₂ q => ?_) fun _ _ e => e
    have up : RoEnd2 h₀ env.locals x yv m₀ (nx ++ own) (P (i + 1)) s Q .next s₂ → InvEndG h₀ env.locals (fun m nx' => (l, listOf vs.toArray nn) ∈ nx' ∧ nx' = nx ∧ P (i + 1) ∧ ∀ z, z ≠ x → z ≠ yv → m z = m₀ z) own { s with heap := h, toks := tk } s₂ := by
      rintro ⟨hp', h', tk', m', rfl, F', hm', N'⟩
      exact ⟨h', tk', m', nx ++ own, nx, rfl, F', N', fun p hp => List.mem_append_left _ hp, fun p hp => List.mem_append_right _ hp, hoff, hl', rfl, hp', hm'⟩
    cases f with
    | ret v => exact q
    | brk => exact q
    | next => exact up q
    | cont => exact up q
  · rintro m₁ nx h tk ⟨rfl, hp, hm⟩ F₁ N₁
    rw [vars_out2 hm] at F₁
    exact done _ h tk _ hp F₁ N₁
theorem list_search2 {α : Type} {l : Addr} {vs : List Value} {as : List α} {nn : Nat} {m₀ : Vars} {news l₀ : Led} {R : Led → Value → α → Prop} (yv : Str) (hh : A.handled = none) (F : Fr h₀ env.locals s.heap m₀) (N : News h₀ env.locals s.heap news) (hl : (l, listOf vs.toArray nn) ∈ news)
    (hR : ∀ l l' v a, R l v a → (∀ q ∈ l, q ∈ l') → R l' v a) (hA : All2 (R l₀) vs as) (hl₀ : ∀ q ∈ l₀, q ∈ news) (pz : α → Bool)
    (turn : ∀ (i : Nat) a v h tk nx py, as[i]? = some a → (∀ (j : Nat) b, j < i → as[j]? = some b → pz b = false) → R nx v a → (∀ p ∈ news, p ∈ nx) → Fr h₀ env.locals h (fun y => if y = x then some v else if y = yv then py else m₀ y) → News h₀ env.locals h nx →
      wpAny (model prog w) A (execs body env) (RoEnd2 h₀ env.locals x yv m₀ nx (pz a = false) s Q) E { s with heap := h, toks := tk })
    (done : ∀ v' h tk py, (∀ a ∈ as, pz a = false) → Fr h₀ env.locals h (fun y => if y = x then v' else if y = yv then py else m₀ y) → News h₀ env.locals h news → Q .next { s with heap := h, toks := tk }) :
    wpAny (model prog w) A (pyIter (.ref l)) (fun it s₂ => LoopAtV prog w A h₀ env x body Q E it s₂) E s := by
  refine list_ro2 (yv := yv) (fun i => ∀ (j : Nat) b, j < i → as[j]? = some b → pz b = false) hh hl F N (fun j b hj _ => absurd hj (Nat.not_lt_zero _)) ?_ ?_
  · intro i v h tk nx py hv hP hsub F₁ N₁
    obtain ⟨a, ha, hr⟩ := hA.get' hv
    refine wpAny_mono (turn i a v h tk nx py ha hP (hR _ _ _ _ hr fun q hq => hsub q (hl₀ q hq)) hsub F₁ N₁) (fun f s₂ q => ?_) fun _ _ e => e
    have up : RoEnd2 h₀ env.locals x yv m₀ nx (pz a = false) s Q .next s₂ → RoEnd2 h₀ env.locals x yv m₀ nx (∀ (j : Nat) b, j < i + 1 → as[j]? = some b → pz b = false) s Q .next s₂ := by
      rintro ⟨hz, r⟩
      refine ⟨fun j b hj hb => ?_, r⟩
      by_cases e : j = i
      · subst e
        rw [ha] at hb
        exact (Option.some.inj hb) ▸ hz
      · exact hP j b (by omega) hb
    cases f with
    | ret v => exact q
    | brk => exact q
    | next => exact up q
    | cont => exact up q
  · intro v' h tk py hP F₁ N₁
    refine done v' h tk py (fun a ha => ?_) F₁ N₁
    obtain ⟨j, hj, rfl⟩ := List.mem_iff_getElem.mp ha
    exact hP j _ (by rw [hA.len]; exact hj) (List.getElem?_eq_getElem hj)
end

end
section

theorem updF_upd {d : Addr} {o o' : Obj} : ∀ {l : List (Addr × Obj)} {g : Obj → List (Addr × Obj)}, UpdF d o l g → Upd d o o' l (g o')
  | _, _, .head h => .head h
  | _, _, .tail h r => .tail h (updF_upd r)
theorem cut_at : ∀ {vs : List Value} {i : Nat} {y : Value}, vs[i]? = some y → kl_cut vs i = some (vs.take i, y, vs.drop (i + 1))
  | [], _, _, h => by simp at h
  | x :: r, 0, y, h => by
    have e : x = y := by simpa using h
    subst e
    rfl
  | x :: r, i + 1, y, h => by
    unfold kl_cut
    rw [cut_at (vs := r) (i := i) (by simpa using h)]
    rfl
section
variable {prog : Program} {w : World} {A : Around} {E : Value → Shared → Prop} {s : Shared} {h₀ : Heap} {L : Addr} {m : Str → Option Value}
theorem pop_led {l : Addr} {vs : List Value} {i n : Nat} {u : Tok} {y : Value} {news : List (Addr × Obj)} {g : Obj → List (Addr × Obj)} {Q : Value → Shared → Prop} (F : Fr h₀ L s.heap m) (N : News h₀ L s.heap news) (U : UpdF l (listOf vs.toArray n) news g) (hi : vs[i]? = some y) (hz : vs.length < 10000)
    (h : ∀ h', Fr h₀ L h' m → News h₀ L h' (g (listOf (vs.eraseIdx i).toArray (n + 1))) → Q y { s with heap := h' }) : wpAny (model prog w) A (call (.builtin "list.pop") [.ref l, .int (i : Int) u]) Q E s := by
  have hl : i < vs.length := (List.getElem?_eq_some_iff.mp hi).1
  have U' := updF_upd (o' := listOf (vs.eraseIdx i).toArray (n + 1)) U
  rw [List.eraseIdx_eq_take_drop_succ] at U'
  refine kl_popAt (k := i) F N ?_ ?_ (cut_at hi) U' (by show vs.length ≤ sizeLine; rw [sizeLine_eq]; omega) ?_
  · unfold Builtin.List.listFitsIndex
    simp only [Bool.and_eq_true, decide_eq_true_eq]
    omega
  · unfold seqIndex?
    rw [List.size_toArray]
    have e : ¬ ((i : Int) < 0) := by omega
    simp only [if_neg e]
    rw [if_pos (by simp only [Bool.and_eq_true, decide_eq_true_eq]; omega)]
    simp
  · intro h' F' N'
    rw [← List.eraseIdx_eq_take_drop_succ] at N'
    exact h h' F' N'
end

end
section

open PyProof.Rows.LCg
theorem off3_of {I C D : Addr} : ∀ {l : Led}, (∀ p ∈ l, p.1 ≠ I ∧ p.1 ≠ C ∧ p.1 ≠ D) → Off3 I C D l
  | [], _ => trivial
  | p :: r, h => ⟨h p List.mem_cons_self, off3_of fun q hq => h q (List.mem_cons_of_mem _ hq)⟩
theorem updF_app {d : Addr} {o : Obj} {l : Led} {g : Obj → Led} : ∀ {tl : Led}, (∀ p ∈ tl, p.1 ≠ d) → UpdF d o l g → UpdF d o (tl ++ l) (fun o' => tl ++ g o')
  | [], _, U => U
  | _ :: _, h, U => .tail (h _ List.mem_cons_self) (updF_app (fun p hp => h p (List.mem_cons_of_mem _ hp)) U)
theorem upd_app {d : Addr} {o o' : Obj} {l l' : Led} : ∀ {tl : Led}, (∀ p ∈ tl, p.1 ≠ d) → Upd d o o' l l' → Upd d o o' (tl ++ l) (tl ++ l')
  | [], _, U => U
  | _ :: _, h, U => .tail (h _ List.mem_cons_self) (upd_app (fun p hp => h p (List.mem_cons_of_mem _ hp)) U)
theorem news_mv {h₀ : Heap} {L : Addr} {h : Heap} {pre tl r : Led} {b : Addr × Obj} (N : News h₀ L h (pre ++ (tl ++ (b :: r)))) : News h₀ L h ((pre ++ [b]) ++ (tl ++ r)) := fun p hp => N p (by
  simp only [List.mem_append, List.mem_cons, List.not_mem_nil, or_false] at hp ⊢
  rcases hp with (h | h) | h | h
  · exact .inl h
  · exact .inr (.inr (.inl h))
  · exact .inr (.inl h)
  · exact .inr (.inr (.inr h)))
theorem news_sw {h₀ : Heap} {L : Addr} {h : Heap} {pre tl r : Led} (N : News h₀ L h (pre ++ (tl ++ r))) : News h₀ L h (pre ++ (r ++ tl)) := fun p hp => N p (by
  simp only [List.mem_append] at hp ⊢
  rcases hp with h | h | h
  · exact .inl h
  · exact .inr (.inr h)
  · exact .inr (.inl h))
theorem mem_sw {p : Addr × Obj} {l r : Led} (h : p ∈ l ++ r) : p ∈ r ++ l := List.mem_append.mpr (List.mem_append.mp h).symm
theorem off1_app {D : Addr} {r : Led} : ∀ {tl : Led}, Off1 D (tl ++ r) → (∀ p ∈ tl, p.1 ≠ D) ∧ Off1 D r
  | [], h => ⟨(fun _ h => nomatch h), h⟩
  | _ :: _, h => ⟨List.forall_mem_cons.mpr ⟨h.1, (off1_app h.2).1⟩, (off1_app h.2).2⟩
/-- RoEnd2, with a word over the worth of yv -/
def RoEndP (h₀ : Heap) (L : Addr) (x yv : Str) (m₀ : Vars) (nx : Led) (P : Option Value → Prop) (s : Shared) (Q : Flow → Shared → Prop) (f : Flow) (s₂ : Shared) : Prop :=
  match f with
  | .ret v => Q (.ret v) s₂
  | .brk => Q .next s₂
  | _ => ∃ h' tk' m', P (m' yv) ∧ s₂ = { s with heap := h', toks := tk' } ∧ Fr h₀ L h' m' ∧ (∀ z, z ≠ x → z ≠ yv → m' z = m₀ z) ∧ News h₀ L h' nx
section
variable {prog : Program} {w : World} {A : Around} {E : Value → Shared → Prop} {s : Shared} {env : Env} {h₀ : Heap} {x yv : Str} {body : List Stmt} {Q : Flow → Shared → Prop}
theorem RoEndP.next {h₀ : Heap} {L : Addr} {m₀ m' : Vars} {nx : Led} {P : Option Value → Prop} {s : Shared} {h' : Heap} {tk' : Nat} (F : Fr h₀ L h' m') (N : News h₀ L h' nx) (hp : P (m' yv)) (hm : ∀ z, z ≠ x → z ≠ yv → m' z = m₀ z) :
    RoEndP h₀ L x yv m₀ nx P s Q .next { s with heap := h', toks := tk' } := ⟨h', tk', m', hp, rfl, F, hm, N⟩
theorem RoEndP.ret {h₀ : Heap} {L : Addr} {m₀ : Vars} {nx : Led} {P : Option Value → Prop} {s s₂ : Shared} {v : Value} (h : Q (.ret v) s₂) : RoEndP h₀ L x yv m₀ nx P s Q (.ret v) s₂ := h
theorem list_roP {l : Addr} {vs : List Value} {nn : Nat} {m₀ : Vars} {news : Led} {yv : Str} (P : Nat → Option Value → Prop)
    (hh : A.handled = none) (hl : (l, listOf vs.toArray nn) ∈ news) (F : Fr h₀ env.locals s.heap m₀) (N : News h₀ env.locals s.heap news) (h0 : P 0 (m₀ yv))
    (turn : ∀ (i : Nat) v h tk nx py, vs[i]? = some v → P i py → (∀ p ∈ news, p ∈ nx) → Fr h₀ env.locals h (fun y => if y = x then some v else if y = yv then py else m₀ y) → News h₀ env.locals h nx →
      wpAny (model prog w) A (execs body env) (RoEndP h₀ env.locals x yv m₀ nx (P (i + 1)) s Q) E { s with heap := h, toks := tk })
    (done : ∀ v' h tk py, P vs.length py → Fr h₀ env.locals h (fun y => if y = x then v' else if y = yv then py else m₀ y) → News h₀ env.locals h news → Q .next { s with heap := h, toks := tk }) :
    wpAny (model prog w) A (pyIter (.ref l)) (fun it s₂ => LoopAtV prog w A h₀ env x body Q E it s₂) E s := by
  refine kdl_iter (news := news) (fun i m nx => nx = news ∧ P i (m yv) ∧ ∀ z, z ≠ x → z ≠ yv → m z = m₀ z) hh hl F N ⟨rfl, h0, fun _ _ _ => rfl⟩ ?_ ?_
  · rintro i v m₁ nx h tk own hv hoff hl' ⟨rfl, hp, hm⟩ F₁ N₁
    rw [vars_at2 hm] at F₁
    refine wpAny_mono (turn i v h tk (nx ++ own) _ hv hp (fun p hp => List.mem_append_left _ hp) F₁ N₁) (fun f s₂ q => ?_) fun _ _ e => e
    have up : RoEndP h₀ env.locals x yv m₀ (nx ++ own) (P (i + 1)) s Q .next s₂ → InvEndG h₀ env.locals (fun m nx' => (l, listOf vs.toArray nn) ∈ nx' ∧ nx' = nx ∧ P (i + 1) (m yv) ∧ ∀ z, z ≠ x → z ≠ yv → m z = m₀ z) own { s with heap := h, toks := tk } s₂ := by
      rintro ⟨h', tk', m', hp', rfl, F', hm', N'⟩
      exact ⟨h', tk', m', nx ++ own, nx, rfl, F', N', fun p hp => List.mem_append_left _ hp, fun p hp => List.mem_append_right _ hp, hoff, hl', rfl, hp', hm'⟩
    cases f with
    | ret v => exact q
    | brk => exact q
    | next => exact up q
    | cont => exact up q
  · rintro m₁ nx h tk ⟨rfl, hp, hm⟩ F₁ N₁
    rw [vars_out2 hm] at F₁
    exact done _ h tk _ hp F₁ N₁
end
section
variable {prog : Program} {w : World} {A : Around} {s : Shared} {h₀ : Heap} {L : Addr} {m : Vars} {env : Env} {elt ct : Expr} {x : Str} {scope : Scope} {cl : List (Str × Addr)} {S : Led → Prop} {P : Nat → Value → Prop} {Fin : List Value → Led → Prop} {n : Nat}
/-- a turn of a comprehension that makes objects of its own -/
def CbEnd (h₀ : Heap) (L : Addr) (m : Vars) (nx : Led) (s : Shared) (c : Value) (R : Led → Value → Prop) (y : Value) (s₂ : Shared) : Prop :=
  ∃ h' tk' own, s₂ = { s with heap := h', toks := tk' } ∧ Fr h₀ L h' m ∧ News h₀ L h' (own ++ nx) ∧ (∀ q ∈ own, q.2.cls = c) ∧ (∀ q ∈ own, ∀ p ∈ nx, p.1 ≠ q.1) ∧ R own y
theorem comp_build {news : Led} {c : Value} (R : Led → Value → Nat → Prop) (hR : ∀ l l' v i, R l v i → (∀ p ∈ l, p ∈ l') → R l' v i) (hS : ∀ nw, (∀ p ∈ news, p ∈ nw) → S nw)
    (fin : ∀ ys tl, All2 (R tl) ys (List.range n) → (∀ q ∈ tl, q.2.cls = c) → (∀ q ∈ tl, ∀ p ∈ news, p.1 ≠ q.1) → Fin ys (tl ++ news))
    (turn : ∀ i v nx C oC m₂ h tk (E' : Value → Shared → Prop), i < n → P i v → NsObj oC m₂ → m₂ x = some v → (C, oC) ∈ nx → (∀ p ∈ news, p ∈ nx) → Fr h₀ L h m → News h₀ L h nx →
      wpAny (model prog w) A (eval elt (compEnvC scope cl C env)) (CbEnd h₀ L m nx s c (fun l y => R l y i)) E' { s with heap := h, toks := tk }) :
    CompRest prog w A h₀ L m env elt x scope cl s S P Fin n 0 [] news := by
  refine comp_G (fun i ys nw => ∃ tl, nw = tl ++ news ∧ All2 (R tl) ys (List.range i) ∧ (∀ q ∈ tl, q.2.cls = c) ∧ ∀ q ∈ tl, ∀ p ∈ news, p.1 ≠ q.1) (fun ys nw ⟨tl, e, hA, hc, hf⟩ => e ▸ fin ys tl hA hc hf) ?_ n 0 [] news (by omega) ⟨[], rfl, All2.nil, (fun _ h => nomatch h), fun _ h => nomatch h⟩
  rintro i v ys nw I oI C oC D m₂ h tk E' hi hP ⟨tl, rfl, hA, hc, hf⟩ hC hx F N off ne
  refine wpAny_mono (turn i v ((I, oI) :: (C, oC) :: (D, lst ys) :: (tl ++ news)) C oC m₂ h tk E' hi hP hC hx (List.mem_cons_of_mem _ List.mem_cons_self) (fun p hp => List.mem_cons_of_mem _ (List.mem_cons_of_mem _ (List.mem_cons_of_mem _ (List.mem_append_right _ hp)))) F N) (fun y s₂ hq => ?_) fun _ _ e => e
  obtain ⟨h', tk', own, rfl, F', N', hc', hf', hR'⟩ := hq
  have n1 : ∀ q ∈ own, q.1 ≠ I := fun q hq => Ne.symm (hf' q hq (I, oI) List.mem_cons_self)
  have n2 : ∀ q ∈ own, q.1 ≠ C := fun q hq => Ne.symm (hf' q hq (C, oC) (List.mem_cons_of_mem _ List.mem_cons_self))
  have n3 : ∀ q ∈ own, q.1 ≠ D := fun q hq => Ne.symm (hf' q hq (D, lst ys) (List.mem_cons_of_mem _ (List.mem_cons_of_mem _ List.mem_cons_self)))
  have sub : ∀ p ∈ tl ++ news, p ∈ (I, oI) :: (C, oC) :: (D, lst ys) :: (tl ++ news) := fun p hp => List.mem_cons_of_mem _ (List.mem_cons_of_mem _ (List.mem_cons_of_mem _ hp))
  refine ⟨h', tk', (own ++ tl) ++ news, rfl, F', fun p hp => N' p ?_, off3_of fun p hp => ?_, hS _ fun p hp => List.mem_append_right _ hp, own ++ tl, rfl, ?_, ?_, ?_⟩
  · rcases List.mem_cons.mp hp with rfl | hp
    · exact List.mem_append_right _ List.mem_cons_self
    · rcases List.mem_cons.mp hp with rfl | hp
      · exact List.mem_append_right _ (List.mem_cons_of_mem _ List.mem_cons_self)
      · rcases List.mem_cons.mp hp with rfl | hp
        · exact List.mem_append_right _ (List.mem_cons_of_mem _ (List.mem_cons_of_mem _ List.mem_cons_self))
        · rw [List.append_assoc] at hp
          rcases List.mem_append.mp hp with hp | hp
          · exact List.mem_append_left _ hp
          · exact List.mem_append_right _ (sub p hp)
  · rw [List.append_assoc] at hp
    rcases List.mem_append.mp hp with hp | hp
    · exact ⟨n1 p hp, n2 p hp, n3 p hp⟩
    · exact Off3.mem off p hp
  · rw [List.range_succ]
    exact (hA.mono fun v i r => hR _ _ _ _ r fun p hp => List.mem_append_right _ hp).append (All2.one (hR _ _ _ _ hR' fun p hp => List.mem_append_left _ hp))
  · intro q hq
    rcases List.mem_append.mp hq with hq | hq
    · exact hc' q hq
    · exact hc q hq
  · intro q hq p hp
    rcases List.mem_append.mp hq with hq | hq
    · exact hf' q hq p (sub p (List.mem_append_right _ hp))
    · exact hf q hq p hp
end

end
section

/-- two sides share no place -/
def Apart (mu ro : Led) : Prop := ∀ p ∈ mu, ∀ q ∈ ro, q.1 ≠ p.1
theorem vars_at3 {m m₀ : Vars} {x yv zv : Str} {v : Option Value} (hm : ∀ z, z ≠ x → z ≠ yv → z ≠ zv → m z = m₀ z) : (fun y => if y = x then v else m y) = (fun y => if y = x then v else if y = yv then m yv else if y = zv then m zv else m₀ y) := by
  funext z
  by_cases e : z = x
  · rw [if_pos e, if_pos e]
  · rw [if_neg e, if_neg e]
    by_cases f : z = yv
    · rw [if_pos f, f]
    · rw [if_neg f]
      by_cases g : z = zv
      · rw [if_pos g, g]
      · rw [if_neg g, hm z e f g]
theorem vars_out3 {m m₀ : Vars} {x yv zv : Str} (hm : ∀ z, z ≠ x → z ≠ yv → z ≠ zv → m z = m₀ z) : m = (fun y => if y = x then m x else if y = yv then m yv else if y = zv then m zv else m₀ y) := by
  have := vars_at3 (v := m x) hm
  rw [← this]
  funext z
  by_cases e : z = x
  · rw [if_pos e, e]
  · rw [if_neg e]
/-- a turn's end, of a loop that changes the part mu of the ledger and the variables yv, zv -/
def MEnd (h₀ : Heap) (L : Addr) (x yv zv : Str) (m₀ : Vars) (ro : Led) (J : Option Value → Option Value → Led → Prop) (s : Shared) (Q : Flow → Shared → Prop) (f : Flow) (s₂ : Shared) : Prop :=
  match f with
  | .ret v => Q (.ret v) s₂
  | .brk => Q .next s₂
  | _ => ∃ h' tk' m' mu, s₂ = { s with heap := h', toks := tk' } ∧ Fr h₀ L h' m' ∧ (∀ z, z ≠ x → z ≠ yv → z ≠ zv → m' z = m₀ z) ∧ News h₀ L h' (mu ++ ro) ∧ Apart mu ro ∧ J (m' yv) (m' zv) mu
section
variable {prog : Program} {w : World} {A : Around} {E : Value → Shared → Prop} {s : Shared} {env : Env} {h₀ : Heap} {x yv zv : Str} {body : List Stmt} {Q : Flow → Shared → Prop}
theorem MEnd.next {L : Addr} {m₀ m' : Vars} {ro mu : Led} {J : Option Value → Option Value → Led → Prop} {s : Shared} {h' : Heap} {tk' : Nat} (F : Fr h₀ L h' m') (N : News h₀ L h' (mu ++ ro)) (ha : Apart mu ro) (hj : J (m' yv) (m' zv) mu) (hm : ∀ z, z ≠ x → z ≠ yv → z ≠ zv → m' z = m₀ z) :
    MEnd h₀ L x yv zv m₀ ro J s Q .next { s with heap := h', toks := tk' } := ⟨h', tk', m', mu, rfl, F, hm, N, ha, hj⟩
theorem MEnd.ret {L : Addr} {m₀ : Vars} {ro : Led} {J : Option Value → Option Value → Led → Prop} {s s₂ : Shared} {v : Value} (h : Q (.ret v) s₂) : MEnd h₀ L x yv zv m₀ ro J s Q (.ret v) s₂ := h
theorem MEnd.inv {m₀ : Vars} {news mu₁ own : Led} {J : Option Value → Option Value → Led → Prop} {s₁ s₂ : Shared} (hp : Apart mu₁ news) (hoff : OwnOff own ((mu₁ ++ news).map (·.1))) (q : MEnd h₀ env.locals x yv zv m₀ (news ++ own) J s₁ Q .next s₂) :
    InvEndG h₀ env.locals (fun m nx => (∀ z, z ≠ x → z ≠ yv → z ≠ zv → m z = m₀ z) ∧ ∃ mu, nx = mu ++ news ∧ Apart mu news ∧ J (m yv) (m zv) mu) own s₁ s₂ := by
  obtain ⟨h', tk', m', mu, rfl, F', hm', N', ha, hj⟩ := q
  refine ⟨h', tk', m', mu ++ (news ++ own), mu ++ news, rfl, F', N', fun p hp => ?_, fun p hp => List.mem_append_right _ (List.mem_append_right _ hp), fun p hp b hb => ?_, hm', mu, rfl, fun p hp q hq => ha p hp q (List.mem_append_left _ hq), hj⟩
  · rcases List.mem_append.mp hp with hp | hp
    · exact List.mem_append_left _ hp
    · exact List.mem_append_right _ (List.mem_append_left _ hp)
  · obtain ⟨e, he, rfl⟩ := List.mem_map.mp hb
    rcases List.mem_append.mp he with he | he
    · exact ha e he p (List.mem_append_right _ hp)
    · exact hoff p hp _ (List.mem_map.mpr ⟨e, List.mem_append_right _ he, rfl⟩)
theorem apart_own {mu news own : Led} (hp : Apart mu news) (hoff : OwnOff own ((mu ++ news).map (·.1))) : Apart mu (news ++ own) := fun p hp' q hq => by
  rcases List.mem_append.mp hq with hq | hq
  · exact hp p hp' q hq
  · exact hoff q hq _ (List.mem_map.mpr ⟨p, List.mem_append_left _ hp', rfl⟩)
theorem range_mut {r : Addr} {t₀ u₀ v₀ : Tok} {n : Nat} {m₀ : Vars} {mu₀ news : Led} (yv zv : Str) (J : Nat → Option Value → Option Value → Led → Prop)
    (hh : A.handled = none) (hr : IsRange s.heap r 0 (n : Int) 1 t₀ u₀ v₀) (hn : n < 2 ^ 40) (F : Fr h₀ env.locals s.heap m₀) (N : News h₀ env.locals s.heap (mu₀ ++ news)) (hp : Apart mu₀ news) (hj : J 0 (m₀ yv) (m₀ zv) mu₀)
    (turn : ∀ (i : Nat) t py pz mu ro h tk, i < n → J i py pz mu → (∀ p ∈ news, p ∈ ro) → Apart mu ro → Fr h₀ env.locals h (fun y => if y = x then some (.int (i : Int) t) else if y = yv then py else if y = zv then pz else m₀ y) → News h₀ env.locals h (mu ++ ro) →
      wpAny (model prog w) A (execs body env) (MEnd h₀ env.locals x yv zv m₀ ro (J (i + 1)) { s with heap := h, toks := tk } Q) E { s with heap := h, toks := tk })
    (done : ∀ px py pz mu h tk, J n py pz mu → Apart mu news → Fr h₀ env.locals h (fun y => if y = x then px else if y = yv then py else if y = zv then pz else m₀ y) → News h₀ env.locals h (mu ++ news) → Q .next { s with heap := h, toks := tk }) :
    wpAny (model prog w) A (pyIter (.ref r)) (fun it s₂ => LoopAtV prog w A h₀ env x body Q E it s₂) E s := by
  refine range_G (news := mu₀ ++ news) (fun i m nx => (∀ z, z ≠ x → z ≠ yv → z ≠ zv → m z = m₀ z) ∧ ∃ mu, nx = mu ++ news ∧ Apart mu news ∧ J i (m yv) (m zv) mu) hh hr hn F N ⟨fun _ _ _ _ => rfl, mu₀, rfl, hp, hj⟩ ?_ ?_
  · rintro i t m₁ nx h tk own hi hoff ⟨hm, mu, rfl, ha, hJ⟩ F₁ N₁
    rw [vars_at3 hm] at F₁
    rw [List.append_assoc] at N₁
    refine wpAny_mono (turn i t _ _ mu (news ++ own) h tk hi hJ (fun p hp => List.mem_append_left _ hp) (apart_own ha hoff) F₁ N₁) (fun f s₂ q => ?_) fun _ _ e => e
    cases f with
    | ret v => exact q
    | brk => exact q
    | next => exact MEnd.inv (Q := Q) ha hoff q
    | cont => exact MEnd.inv (Q := Q) ha hoff q
  · rintro m₁ nx h tk ⟨hm, mu, rfl, ha, hJ⟩ F₁ N₁
    rw [vars_out3 hm] at F₁
    exact done _ _ _ mu h tk hJ ha F₁ N₁
theorem range_mutC {r : Addr} {t₀ u₀ v₀ : Tok} {n : Nat} {m₀ : Vars} {c : Addr} {oc : Obj} {mu₁ news : Led} (yv zv : Str) (J : Addr → Nat → Option Value → Option Value → Led → Prop)
    (hh : A.handled = none) (hr : IsRange s.heap r 0 (n : Int) 1 t₀ u₀ v₀) (hn : n < 2 ^ 40) (F : Fr h₀ env.locals s.heap m₀) (N : News h₀ env.locals s.heap (((c, oc) :: mu₁) ++ news)) (hp : Apart ((c, oc) :: mu₁) news) (hj : J c 0 (m₀ yv) (m₀ zv) ((c, oc) :: mu₁))
    (turn : ∀ (i : Nat) t py pz mu ro h tk, i < n → J c i py pz mu → (∀ p ∈ news, p ∈ ro) → Apart mu ro → Fr h₀ env.locals h (fun y => if y = x then some (.int (i : Int) t) else if y = yv then py else if y = zv then pz else m₀ y) → News h₀ env.locals h (mu ++ ro) →
      wpAny (model prog w) A (execs body env) (MEnd h₀ env.locals x yv zv m₀ ro (J c (i + 1)) { s with heap := h, toks := tk } Q) E { s with heap := h, toks := tk })
    (done : ∀ px py pz mu h tk, J c n py pz mu → Apart mu news → Fr h₀ env.locals h (fun y => if y = x then px else if y = yv then py else if y = zv then pz else m₀ y) → News h₀ env.locals h (mu ++ news) → Q .next { s with heap := h, toks := tk }) :
    wpAny (model prog w) A (pyIter (.ref r)) (fun it s₂ => LoopAtV prog w A h₀ env x body Q E it s₂) E s :=
  range_mut yv zv (J c) hh hr hn F N hp hj turn done
end

end
section

open PyProof.Rows.LCg
/-- the tests of a comprehension -/
def enTests (ifs : List Expr) (env : Env) : Sem Bool := forIn ifs true fun c r => if r = true then do let ok ← isTrue c env (eval c env); pure (ForInStep.yield ok) else pure (ForInStep.yield r)
section
variable {prog : Program} {w : World} {A : Around} {E : Value → Shared → Prop} {s : Shared}
theorem enTests_nil {env : Env} {Q : Bool → Shared → Prop} (h : Q true s) : wpAny (model prog w) A (enTests [] env) Q E s := wpAny_tests_nil h
theorem enTests_one {env : Env} {c : Expr} {Q : Bool → Shared → Prop} (h : wpAny (model prog w) A (isTrue c env (eval c env)) Q E s) : wpAny (model prog w) A (enTests [c] env) Q E s := wpAny_tests_one h
theorem en_loop {elt target iter : Expr} {ifs : List Expr} {scope : Scope} {pos : Pos} {it acc : Value} {env : Env} {R : Result → Shared → Prop} (I : Nat → Shared → Prop)
    (turn : ∀ n s, I n s → wpAny (model prog w) A (pyNext it) (fun r s₁ => match r with
      | none => R (.ok .next) s₁
      | some v => wpAny (model prog w) A (letOwnedTupleGo target it v) (fun _ s₀ => wpAny (model prog w) A (assign target env v) (fun _ s₂ =>
          wpAny (model prog w) A (enTests ifs env) (fun ok s₃ => if ok = true then wpAny (model prog w) A (eval elt env) (fun x s₄ =>
            wpAny (model prog w) A (call (.builtin "list.append") [acc, x]) (fun _ s₅ => ∃ m, m < n ∧ I m s₅) (notedBy (model prog w) A env fun e s' => R (.error e) s') s₄) (notedBy (model prog w) A env fun e s' => R (.error e) s') s₃
            else ∃ m, m < n ∧ I m s₃) (notedBy (model prog w) A env fun e s' => R (.error e) s') s₂)
          (notedBy (model prog w) A env fun e s' => R (.error e) s') s₀) (notedBy (model prog w) A env fun e s' => R (.error e) s') s₁) (notedBy (model prog w) A env fun e s' => R (.error e) s') s)
    (n : Nat) (h : I n s) : codeAny (model prog w) A (.compLoop (.ListComp elt [⟨target, iter, ifs, 0⟩] scope pos) 0 it acc env) R s := by
  refine codeAny_loop rfl I (fun n s hI => ?_) n h
  show wpAny _ A ((compTurn (.ListComp elt [⟨target, iter, ifs, 0⟩] scope pos) 0 it acc env).onRaise (fun x => do noteFrame x env; theTreesLotGoes x)) _ _ s
  refine wpAny_noted ?_
  rw [compTurn_list]
  refine wpAny_bind (wpAny_standAt (wpAny_bind (wpAny_mono (turn n s hI) (fun r s₁ h₁ => ?_) fun _ _ h' => h')))
  cases r with
  | none => exact wpAny_pure h₁
  | some v =>
    refine wpAny_bind (wpAny_mono h₁ (fun _ s₀ h₀' => ?_) fun _ _ h' => h')
    refine wpAny_bind (wpAny_mono h₀' (fun _ s₂ h₂ => ?_) fun _ _ h' => h')
    refine wpAny_bind (wpAny_mono h₂ (fun okb s₃ h₃ => ?_) fun _ _ h' => h')
    cases okb with
    | false => exact wpAny_pure ⟨rfl, h₃⟩
    | true => exact wpAny_bind (wpAny_bind (wpAny_mono h₃ (fun x s₄ h₄ => wpAny_bind (wpAny_mono h₄ (fun _ s₅ h₅ => wpAny_pure (wpAny_pure ⟨rfl, h₅⟩)) fun _ _ h' => h')) fun _ _ h' => h'))
end
/-- a test's end -/
def EtEnd (h₀ : Heap) (L : Addr) (m : Vars) (nx : Led) (s : Shared) (no : Prop) (yes : Shared → Prop) (ok : Bool) (s₂ : Shared) : Prop :=
  if ok = true then yes s₂ else ∃ h' tk', s₂ = { s with heap := h', toks := tk' } ∧ Fr h₀ L h' m ∧ News h₀ L h' nx ∧ no
section
variable {prog : Program} {w : World} {A : Around} {E : Value → Shared → Prop} {s : Shared} {h₀ : Heap} {L : Addr} {m : Vars} {env : Env}
theorem EtEnd.yes {nx : Led} {s' : Shared} {no : Prop} {yes : Shared → Prop} {s₂ : Shared} (h : yes s₂) : EtEnd h₀ L m nx s' no yes true s₂ := by
  unfold EtEnd; rw [if_pos rfl]; exact h
theorem EtEnd.no {nx : Led} {s' : Shared} {no : Prop} {yes : Shared → Prop} {h' : Heap} {tk' : Nat} (F : Fr h₀ L h' m) (N : News h₀ L h' nx) (h : no) : EtEnd h₀ L m nx s' no yes false { s' with heap := h', toks := tk' } := by
  unfold EtEnd; rw [if_neg (by decide)]; exact ⟨h', tk', rfl, F, N, h⟩
/-- what runs once the iterator stands -/
def EnBlk (prog : Program) (w : World) (A : Around) (E : Value → Shared → Prop) (env : Env) (elt : Expr) (target iter : Expr) (ifs : List Expr) (scope : Scope) (cl : List (Str × Addr)) (pos : Pos) (RR : Value → Addr → Result → Shared → Prop) (it : Value) (s₂ : Shared) : Prop :=
  wpAny (model prog w) A (newList []) (fun acc s₃ => wpAny (model prog w) A (newFunctionEnv scope env.globals cl [] env.qual none .none (some env)) (fun cenv s₄ =>
      codeAny (model prog w) A (.compStart (.ListComp elt [⟨target, iter, ifs, 0⟩] scope pos) 0 it acc { cenv with scope := relabel scope env }) (RR acc cenv.locals) s₄) E s₃) E s₂
def EnSrc (prog : Program) (w : World) (A : Around) (E : Value → Shared → Prop) (env : Env) (elt : Expr) (target iter : Expr) (ifs : List Expr) (scope : Scope) (cl : List (Str × Addr)) (pos : Pos) (RR : Shared → Value → Addr → Result → Shared → Prop) (xv : Value) (s₁ : Shared) : Prop :=
  wpAny (model prog w) A (pyIter xv) (fun it s₂ => EnBlk prog w A E env elt target iter ifs scope cl pos (RR s₁) it s₂) E s₁
theorem en_block {elt iter : Expr} {a b : Str} {pa pb tp : Pos} {kk : Nat} {ifs : List Expr} {scope : Scope} {cl : List (Str × Addr)} {pos : Pos} {e it l : Addr} {nn : Nat} {vs : List Value} {news : Led} {old : Value} {c : Value}
    (R : Led → Value → Nat → Prop) (hR : ∀ l l' v i, R l v i → (∀ p ∈ l, p ∈ l') → R l' v i) (pz : Nat → Bool) {RR : Value → Addr → Result → Shared → Prop}
    (hh : A.handled = none) (he : IsEnum s.heap e it 0 old) (hit : s.heap.IsListIter it l 0) (hl : (l, listOf vs.toArray nn) ∈ news) (hsz : vs.length ≤ sizeLine)
    (hei : e ≠ it) (hcell : ∀ y ∈ scope.names, y.2 ≠ .cell) (hkind : scope.kind = .function) (hxa : scope.names.lookup a = some .local) (hxb : scope.names.lookup b = some .local) (hab : ¬ a = b)
    (F : Fr h₀ L s.heap m) (N : News h₀ L s.heap news) (hLe : L ≠ e) (hLi : L ≠ it) (he₀ : h₀.get? e = none) (hi₀ : h₀.get? it = none) (offe : ∀ p ∈ news, p.1 ≠ e) (offi : ∀ p ∈ news, p.1 ≠ it)
    (turn : ∀ (i : Nat) t v nx C oC m₂ h tk (E' : Value → Shared → Prop), vs[i]? = some v → NsObj oC m₂ → m₂ a = some (.int (i : Int) t) → m₂ b = some v → (C, oC) ∈ nx → (∀ p ∈ news, p ∈ nx) → Fr h₀ L h m → News h₀ L h nx →
      wpAny (model prog w) A (enTests ifs (compEnvC scope cl C env)) (EtEnd h₀ L m nx s (pz i = false) (fun s₃ => pz i = true ∧ wpAny (model prog w) A (eval elt (compEnvC scope cl C env)) (CbEnd h₀ L m nx s c (fun l y => R l y i)) E' s₃)) E' { s with heap := h, toks := tk })
    (hRR : ∀ D C h tk m' ys tl, Fr h₀ L h m → News h₀ L h ((D, lst ys) :: (tl ++ news)) → Off1 D (tl ++ news) → h.Ns C m' → h₀.get? C = none → h₀.get? D = none → C ≠ L → D ≠ L → C ≠ D → (∀ p ∈ tl ++ news, p.1 ≠ C) →
      All2 (R tl) ys ((List.range vs.length).filter pz) → (∀ q ∈ tl, q.2.cls = c) → (∀ q ∈ tl, ∀ p ∈ news, p.1 ≠ q.1) → RR (.ref D) C (.ok .next) { s with heap := h, toks := tk }) :
    EnBlk prog w A E env elt (.Tuple [.Name a pa, .Name b pb] kk tp) iter ifs scope cl pos RR (.ref e) s := by
  unfold EnBlk
  refine wpAny_newObj_type (wpAny_newFunctionEnv hcell (by intro y hy; simp at hy) (fun h₁ hns₁ hsb₁ => ?_) hkind)
  dsimp only at hns₁ hsb₁ ⊢
  generalize hH2 : s.heap.push { cls := .type "list", dict := none, data := .seq ([] : List Value).toArray } = H2 at hns₁ hsb₁ ⊢
  have hC : H2.objs.size = s.heap.objs.size + 1 := by rw [← hH2, Heap.size_push]
  have hDC : s.heap.objs.size ≠ H2.objs.size := by rw [hC]; exact Nat.ne_of_lt (Nat.lt_succ_self _)
  have below : ∀ b, b < s.heap.objs.size → b ≠ H2.objs.size ∧ b ≠ s.heap.objs.size := fun b hb => ⟨by rw [hC]; exact Nat.ne_of_lt (Nat.lt_succ_of_lt hb), Nat.ne_of_lt hb⟩
  have helt : e < s.heap.objs.size := Heap.lt_size he
  have hilt : it < s.heap.objs.size := by obtain ⟨_, x, _⟩ := hit; exact Heap.lt_size x
  have old' : ∀ b o, s.heap.get? b = some o → h₁.get? b = some o := fun b o e => hsb₁.extBut b o (below b (Heap.lt_size e)).1 (Heap.get?_push_of_some _ (hH2 ▸ Heap.get?_push_of_some _ e))
  have hacc : h₁.get? s.heap.objs.size = some (lst []) := hsb₁.extBut _ _ hDC (Heap.get?_push_of_some _ (hH2 ▸ Heap.get?_push_size _ rfl))
  have fresh : ∀ a, s.heap.objs.size ≤ a → s.heap.get? a = none := fun a ha => by
    cases e : s.heap.get? a with
    | none => rfl
    | some o' => exact absurd (Heap.lt_size e) (Nat.not_lt.mpr ha)
  have fresh₀ : ∀ a, s.heap.objs.size ≤ a → h₀.get? a = none := fun a ha => by
    cases e : h₀.get? a with
    | none => rfl
    | some o' => have := F.keep a o' e; rw [fresh a ha] at this; cases this
  have hD₀ : h₀.get? s.heap.objs.size = none := fresh₀ _ (Nat.le_refl _)
  have hC₀ : h₀.get? H2.objs.size = none := fresh₀ _ (by rw [hC]; exact Nat.le_succ _)
  have hLlt : L < s.heap.objs.size := F.ns.lt
  have hDL : s.heap.objs.size ≠ L := Ne.symm (below L hLlt).2
  have hCL : H2.objs.size ≠ L := Ne.symm (below L hLlt).1
  have hCe : e ≠ H2.objs.size := (below e helt).1
  have hDe : e ≠ s.heap.objs.size := (below e helt).2
  have hCi : it ≠ H2.objs.size := (below it hilt).1
  have hDi : it ≠ s.heap.objs.size := (below it hilt).2
  have hle : l ≠ e := offe _ hl
  have hli : l ≠ it := offi _ hl
  have W := WalksT.enumerate (prog := prog) (w := w) hh e it l hei hle hli vs.toArray
  have loop : ∀ s₃ : Shared, s₃ = { s with heap := h₁, toks := s.toks + ([] : List (Str × Value)).length } →
      codeAny (model prog w) A (.compLoop (.ListComp elt [⟨.Tuple [.Name a pa, .Name b pb] kk tp, iter, ifs, 0⟩] scope pos) 0 (.ref e) (.ref s.heap.objs.size) (compEnvC scope cl H2.objs.size env))
        (RR (.ref s.heap.objs.size) H2.objs.size) s₃ := by
    rintro s₃ rfl
    refine en_loop
      (fun k s' => ∃ h' tk i ys m' tl, s' = { s with heap := h', toks := tk } ∧ i ≤ vs.length ∧ k = vs.length + 1 - i ∧ ys.length ≤ i ∧ ((∃ old, IsEnum h' e it i old) ∧ h'.IsListIter it l i) ∧ Fr h₀ L h' m ∧ h'.Ns H2.objs.size m' ∧
        News h₀ L h' ((s.heap.objs.size, lst ys) :: (tl ++ news)) ∧ (∀ p ∈ tl ++ news, p.1 ≠ e ∧ p.1 ≠ it ∧ p.1 ≠ H2.objs.size ∧ p.1 ≠ s.heap.objs.size) ∧ All2 (R tl) ys ((List.range i).filter pz) ∧ (∀ q ∈ tl, q.2.cls = c) ∧ (∀ q ∈ tl, ∀ p ∈ news, p.1 ≠ q.1)) ?_ (vs.length + 1)
      ⟨h₁, _, 0, [], _, [], rfl, Nat.zero_le _, rfl, Nat.le_refl _, ⟨⟨_, old' _ _ he⟩, hit.at fun o x => old' _ _ x⟩, F.keeps old', hns₁, fun p hp => ?_, fun p hp => ⟨offe p hp, offi p hp, (below _ (Heap.lt_size (N p hp).1)).1, (below _ (Heap.lt_size (N p hp).1)).2⟩, All2.nil, (fun _ h => nomatch h), fun _ h => nomatch h⟩
    · rintro k s' ⟨h', tk, i, ys, m', tl, rfl, hi, rfl, hyl, ⟨⟨old1, he'⟩, hit'⟩, F', hn', N', off', hA, hcl, hfr⟩
      have hl' : h'.IsList l vs.toArray := ⟨_, (N' _ (List.mem_cons_of_mem _ (List.mem_append_right _ hl))).1, rfl, nn, rfl⟩
      by_cases hlt : i < vs.length
      · refine W.item i _ _ _ (by simpa using hlt) ⟨⟨_, he'⟩, hit', hl'⟩ fun T vals h₂ tk₂ hPt _ hT hMd hk₂ => ?_
        obtain ⟨t, v, hv, rfl⟩ := hPt
        have hv' : vs[i]? = some v := by simpa using hv
        refine W.go _ _ _ i T _ _ _ hMd fun h₃ hst₃ hk₃ => ?_
        have up₃ : ∀ c o, c ≠ e → c ≠ it → h'.get? c = some o → h₃.get? c = some o := fun c o h1 h2 x => hk₃ c o (by simp [h1, h2]) (hk₂ c o (by simp [h1, h2]) x)
        have hT₃ : h₃.IsTuple T #[.int (i : Int) t, v] := hT.at fun o x => hk₃ T o (W.apart i T _ hMd) x
        refine kcp_assign (env := compEnvC scope cl H2.objs.size env) hh hT₃ (lookup_relabel_local hxa) (lookup_relabel_local hxb) (by simp [compEnvC, relabel, hkind]) (hn'.at' fun o x => up₃ _ o (Ne.symm hCe) (Ne.symm hCi) x) fun h₄ tk₄ hn₄ hs₄ => ?_
        have up : ∀ c o, c ≠ e → c ≠ it → c ≠ H2.objs.size → h'.get? c = some o → h₄.get? c = some o := fun c o h1 h2 h3 x => hs₄ c o h3 (up₃ c o h1 h2 x)
        obtain ⟨⟨old3, he₃⟩, hit₃, _⟩ := hst₃
        have he₄ : IsEnum h₄ e it (i + 1 : Nat) old3 := hs₄ e _ hCe he₃
        have hit₄ : h₄.IsListIter it l (i + 1) := hit₃.at fun o x => hs₄ it o hCi x
        obtain ⟨oe, hoe, hoe'⟩ : ∃ oe : Obj, h₄.get? e = some oe ∧ ∀ h : Heap, h.get? e = some oe → IsEnum h e it (i + 1 : Nat) old3 := ⟨_, he₄, fun _ x => x⟩
        obtain ⟨oi, hoi, hoi2⟩ := hit₄
        have hoi' : ∀ h : Heap, h.get? it = some oi → h.IsListIter it l (i + 1) := fun h x => ⟨oi, x, hoi2⟩
        obtain ⟨oC, heC, hoC⟩ := ns_obj hn₄
        have F₄ : Fr h₀ L h₄ m := ⟨F'.ns.at' fun o x => up _ o hLe hLi (Ne.symm hCL) x, fun c o x => up c o (fun q => by rw [q, he₀] at x; cases x) (fun q => by rw [q, hi₀] at x; cases x) (fun q => by rw [q, hC₀] at x; cases x) (F'.keep c o x), F'.above⟩
        have N₄ : News h₀ L h₄ ((e, oe) :: (it, oi) :: (H2.objs.size, oC) :: (s.heap.objs.size, lst ys) :: (tl ++ news)) := fun q hq => by
          rcases List.mem_cons.mp hq with rfl | hq
          · exact ⟨hoe, Ne.symm hLe, he₀⟩
          · rcases List.mem_cons.mp hq with rfl | hq
            · exact ⟨hoi, Ne.symm hLi, hi₀⟩
            · rcases List.mem_cons.mp hq with rfl | hq
              · exact ⟨heC, hCL, hC₀⟩
              · have z := N' q hq
                refine ⟨up _ _ ?_ ?_ ?_ z.1, z.2⟩
                · rcases List.mem_cons.mp hq with rfl | hq
                  · exact Ne.symm hDe
                  · exact (off' q hq).1
                · rcases List.mem_cons.mp hq with rfl | hq
                  · exact Ne.symm hDi
                  · exact (off' q hq).2.1
                · rcases List.mem_cons.mp hq with rfl | hq
                  · exact hDC
                  · exact (off' q hq).2.2.1
        have fin : ∀ (ys' : List Value) (h₅ : Heap) (tk₅ : Nat) (tl₅ : Led), ys'.length ≤ i + 1 → Fr h₀ L h₅ m → News h₀ L h₅ ((e, oe) :: (it, oi) :: (H2.objs.size, oC) :: (s.heap.objs.size, lst ys') :: (tl₅ ++ news)) → (∀ p ∈ tl₅ ++ news, p.1 ≠ e ∧ p.1 ≠ it ∧ p.1 ≠ H2.objs.size ∧ p.1 ≠ s.heap.objs.size) →
            All2 (R tl₅) ys' ((List.range (i + 1)).filter pz) → (∀ q ∈ tl₅, q.2.cls = c) → (∀ q ∈ tl₅, ∀ p ∈ news, p.1 ≠ q.1) →
            ∃ q', q' < vs.length + 1 - i ∧ (∃ h' tk i ys m' tl, ({ s with heap := h₅, toks := tk₅ } : Shared) = { s with heap := h', toks := tk } ∧ i ≤ vs.length ∧ q' = vs.length + 1 - i ∧ ys.length ≤ i ∧ ((∃ old, IsEnum h' e it i old) ∧ h'.IsListIter it l i) ∧ Fr h₀ L h' m ∧ h'.Ns H2.objs.size m' ∧
        News h₀ L h' ((s.heap.objs.size, lst ys) :: (tl ++ news)) ∧ (∀ p ∈ tl ++ news, p.1 ≠ e ∧ p.1 ≠ it ∧ p.1 ≠ H2.objs.size ∧ p.1 ≠ s.heap.objs.size) ∧ All2 (R tl) ys ((List.range i).filter pz) ∧ (∀ q ∈ tl, q.2.cls = c) ∧ (∀ q ∈ tl, ∀ p ∈ news, p.1 ≠ q.1)) := by
          intro ys' h₅ tk₅ tl₅ hl5 F₅ N₅ off₅ hA₅ hc₅ hf₅
          have ze := (N₅ (e, oe) List.mem_cons_self).1
          have zi := (N₅ (it, oi) (List.mem_cons_of_mem _ List.mem_cons_self)).1
          have zC := (N₅ (H2.objs.size, oC) (List.mem_cons_of_mem _ (List.mem_cons_of_mem _ List.mem_cons_self))).1
          exact ⟨vs.length + 1 - (i + 1), by omega, h₅, tk₅, i + 1, ys', _, tl₅, rfl, hlt, rfl, hl5, ⟨⟨_, hoe' h₅ ze⟩, hoi' h₅ zi⟩, F₅, hoC.ns zC, fun q hq => N₅ q (List.mem_cons_of_mem _ (List.mem_cons_of_mem _ (List.mem_cons_of_mem _ hq))), off₅, hA₅, hc₅, hf₅⟩
        have sub : ∀ p ∈ tl ++ news, p ∈ (e, oe) :: (it, oi) :: (H2.objs.size, oC) :: (s.heap.objs.size, lst ys) :: (tl ++ news) := fun p hp => List.mem_cons_of_mem _ (List.mem_cons_of_mem _ (List.mem_cons_of_mem _ (List.mem_cons_of_mem _ hp)))
        refine wpAny_mono (turn i t v _ H2.objs.size oC _ h₄ _ _ hv' hoC (by simp [hab]) (by simp) (List.mem_cons_of_mem _ (List.mem_cons_of_mem _ List.mem_cons_self)) (fun p hp => sub p (List.mem_append_right _ hp)) F₄ N₄) (fun okb s₅ h₅ => ?_) fun _ _ e => e
        cases okb with
        | false =>
          unfold EtEnd at h₅
          rw [if_neg (by decide)] at h₅
          obtain ⟨h5, tk5, rfl, F5, N5, hno⟩ := h₅
          rw [if_neg (by decide)]
          refine fin ys h5 tk5 tl (Nat.le_succ_of_le hyl) F5 N5 off' ?_ hcl hfr
          rw [List.range_succ, List.filter_append]
          simp only [List.filter_cons, hno, Bool.false_eq_true, if_false, List.filter_nil, List.append_nil]
          exact hA
        | true =>
          unfold EtEnd at h₅
          rw [if_pos rfl] at h₅
          rw [if_pos rfl]
          obtain ⟨hyes, h₅⟩ := h₅
          refine wpAny_mono h₅ (fun y s₆ h₆ => ?_) fun _ _ e => e
          obtain ⟨h6, tk6, own, rfl, F6, N6, hc', hf', hR'⟩ := h₆
          have n1 : ∀ q ∈ own, q.1 ≠ e := fun q hq => Ne.symm (hf' q hq (e, oe) List.mem_cons_self)
          have n2 : ∀ q ∈ own, q.1 ≠ it := fun q hq => Ne.symm (hf' q hq (it, oi) (List.mem_cons_of_mem _ List.mem_cons_self))
          have n3 : ∀ q ∈ own, q.1 ≠ H2.objs.size := fun q hq => Ne.symm (hf' q hq (H2.objs.size, oC) (List.mem_cons_of_mem _ (List.mem_cons_of_mem _ List.mem_cons_self)))
          have n4 : ∀ q ∈ own, q.1 ≠ s.heap.objs.size := fun q hq => Ne.symm (hf' q hq (s.heap.objs.size, lst ys) (List.mem_cons_of_mem _ (List.mem_cons_of_mem _ (List.mem_cons_of_mem _ List.mem_cons_self))))
          have zD := (N6 (s.heap.objs.size, lst ys) (List.mem_append_right _ (List.mem_cons_of_mem _ (List.mem_cons_of_mem _ (List.mem_cons_of_mem _ List.mem_cons_self))))).1
          have off6 : ∀ p ∈ (own ++ tl) ++ news, p.1 ≠ e ∧ p.1 ≠ it ∧ p.1 ≠ H2.objs.size ∧ p.1 ≠ s.heap.objs.size := fun p hp => by
            rw [List.append_assoc] at hp
            rcases List.mem_append.mp hp with hp | hp
            · exact ⟨n1 p hp, n2 p hp, n3 p hp, n4 p hp⟩
            · exact off' p hp
          refine append_at (hsz := by show ys.toArray.size ≤ sizeLine; rw [List.size_toArray]; exact Nat.le_trans hyl (Nat.le_trans hi hsz)) zD fun h₇ hs₇ hD₇ => ?_
          refine fin (ys ++ [y]) h₇ tk6 (own ++ tl) (by rw [List.length_append, List.length_singleton]; omega) (F6.change hs₇ hDL hD₀) (fun p hp => ?_) off6 ?_ ?_ ?_
          · have N7 : ∀ p ∈ (e, oe) :: (it, oi) :: (H2.objs.size, oC) :: ((own ++ tl) ++ news), p.1 ≠ s.heap.objs.size → h₇.get? p.1 = some p.2 ∧ p.1 ≠ L ∧ h₀.get? p.1 = none := fun p hp hne => by
              have : p ∈ own ++ ((e, oe) :: (it, oi) :: (H2.objs.size, oC) :: (s.heap.objs.size, lst ys) :: (tl ++ news)) := by
                simp only [List.mem_cons, List.mem_append] at hp ⊢
                rcases hp with h | h | h | (h | h) | h
                · exact .inr (.inl h)
                · exact .inr (.inr (.inl h))
                · exact .inr (.inr (.inr (.inl h)))
                · exact .inl h
                · exact .inr (.inr (.inr (.inr (.inr (.inl h)))))
                · exact .inr (.inr (.inr (.inr (.inr (.inr h)))))
              have z := N6 p this
              exact ⟨hs₇.extBut _ _ hne z.1, z.2⟩
            rcases List.mem_cons.mp hp with rfl | hp
            · exact N7 _ List.mem_cons_self hDe
            · rcases List.mem_cons.mp hp with rfl | hp
              · exact N7 _ (List.mem_cons_of_mem _ List.mem_cons_self) hDi
              · rcases List.mem_cons.mp hp with rfl | hp
                · exact N7 _ (List.mem_cons_of_mem _ (List.mem_cons_of_mem _ List.mem_cons_self)) (Ne.symm hDC)
                · rcases List.mem_cons.mp hp with rfl | hp
                  · exact ⟨hD₇.trans (congrArg some (lst_snoc ys y)), hDL, hD₀⟩
                  · exact N7 p (List.mem_cons_of_mem _ (List.mem_cons_of_mem _ (List.mem_cons_of_mem _ hp))) (off6 p hp).2.2.2
          · rw [List.range_succ, List.filter_append]
            simp only [List.filter_cons, hyes, if_true, List.filter_nil]
            exact (hA.mono fun v i r => hR _ _ _ _ r fun p hp => List.mem_append_right _ hp).append (All2.one (hR _ _ _ _ hR' fun p hp => List.mem_append_left _ hp))
          · intro q hq
            rcases List.mem_append.mp hq with hq | hq
            · exact hc' q hq
            · exact hcl q hq
          · intro q hq p hp
            rcases List.mem_append.mp hq with hq | hq
            · exact hf' q hq p (sub p (List.mem_append_right _ hp))
            · exact hfr q hq p hp
      · have hin : i = vs.length := Nat.le_antisymm hi (Nat.not_lt.mp hlt)
        subst hin
        refine W.done _ _ _ ⟨⟨_, by simpa using he'⟩, by simpa using hit', hl'⟩ fun h₂ tk₂ hk₂ => ?_
        have up₂ : ∀ c o, c ≠ e → c ≠ it → h'.get? c = some o → h₂.get? c = some o := fun c o h1 h2 x => hk₂ c o (by simp [h1, h2]) x
        refine hRR _ _ h₂ tk₂ _ ys tl ⟨F'.ns.at' fun o x => up₂ _ o hLe hLi x, fun c o x => up₂ c o (fun q => by rw [q, he₀] at x; cases x) (fun q => by rw [q, hi₀] at x; cases x) (F'.keep c o x), F'.above⟩ (fun p hp => ?_) ?_ (hn'.at' fun o x => up₂ _ o (Ne.symm hCe) (Ne.symm hCi) x) hC₀ hD₀ hCL hDL (Ne.symm hDC) (fun p hp => (off' p hp).2.2.1) hA hcl hfr
        · have z := N' p hp
          refine ⟨up₂ _ _ ?_ ?_ z.1, z.2⟩
          · rcases List.mem_cons.mp hp with rfl | hp
            · exact Ne.symm hDe
            · exact (off' p hp).1
          · rcases List.mem_cons.mp hp with rfl | hp
            · exact Ne.symm hDi
            · exact (off' p hp).2.1
        · have : ∀ l' : Led, (∀ p ∈ l', p.1 ≠ s.heap.objs.size) → Off1 s.heap.objs.size l' := fun l' => by
            induction l' with
            | nil => intro _; trivial
            | cons p r ih => exact fun h => ⟨h p List.mem_cons_self, ih fun q hq => h q (List.mem_cons_of_mem _ hq)⟩
          exact this _ fun p hp => (off' p hp).2.2.2
    · rcases List.mem_cons.mp hp with rfl | hp
      · exact ⟨hacc, hDL, hD₀⟩
      · exact ⟨old' _ _ (N p hp).1, (N p hp).2⟩
  exact codeAny_compStart_list (loop _ rfl) (W.self 0 _ _ _ ⟨⟨_, by simpa using old' _ _ he⟩, hit.at fun o x => old' _ _ x, ⟨_, old' _ _ (N _ hl).1, rfl, nn, rfl⟩⟩ (loop _ rfl))
end

end
section

open PyProof.Rows.LCg
section
variable {prog : Program} {w : World} {A : Around} {E : Value → Shared → Prop} {s : Shared} {h₀ : Heap} {L : Addr} {m : Vars} {env : Env}
theorem en_ListComp {elt iter target : Expr} {ifs : List Expr} {scope : Scope} {cl : List (Str × Addr)} {pos : Pos} {Q : Value → Shared → Prop}
    (hclos : closureFor scope env = pure cl) (hkind : scope.kind = .function) (hnames : ∀ y ∈ scope.names, y.2 = .local → scope.names.lookup y.1 = some .local)
    (h : wpAny (model prog w) A (eval iter env) (EnSrc prog w A E env elt target iter ifs scope cl pos (fun _ => compPost (model prog w) A E none Q)) E s)
    (hs : ∀ x, foldedSetIterable iter env x = pure x := by intro _; rfl) :
    wpAny (model prog w) A (eval (.ListComp elt [⟨target, iter, ifs, 0⟩] scope pos) env) Q E s := by
  rw [eval_ListComp]
  exact wpAny_comprehension_free (use := none) rfl hs hclos hkind hnames h
theorem en_Assign {elt iter target : Expr} {y : Str} {py : Pos} {ifs : List Expr} {scope : Scope} {cl : List (Str × Addr)} {pos spos : Pos} {Q : Flow → Shared → Prop}
    (hsw : swapsWith (.ListComp elt [⟨target, iter, ifs, 0⟩] scope pos) (some (.Name y py)) spos.line env = pure true)
    (hclos : closureFor scope env = pure cl) (hkind : scope.kind = .function) (hnames : ∀ y ∈ scope.names, y.2 = .local → scope.names.lookup y.1 = some .local)
    (h : wpAny (model prog w) A (eval iter env) (EnSrc prog w A E env elt target iter ifs scope cl pos (fun _ => compPost (model prog w) A E (some (assign (.Name y py) env)) (fun _ s' => Q .next s'))) E s)
    (hs : ∀ x, foldedSetIterable iter env x = pure x := by intro _; rfl) :
    wpAny (model prog w) A (exec (.Assign [.Name y py] (.ListComp elt [⟨target, iter, ifs, 0⟩] scope pos) spos) env) Q E s := by
  rw [exec_Assign_Name_used _ _ _ _ hsw]
  refine wpAny_bind (wpAny_standAt (wpAny_bind ?_))
  show wpAny _ A (do let _ ← comprehension (.ListComp elt [⟨target, iter, ifs, 0⟩] scope pos) scope env _ (newList []) false (eval iter env) (some (assign (.Name y py) env))) _ _ s
  exact wpAny_bind (wpAny_mono (wpAny_comprehension_free (use := some (assign (.Name y py) env)) (Q := fun _ s' => Q .next s') rfl hs hclos hkind hnames h) (fun _ s' hq => wpAny_pure (wpAny_pure hq)) fun _ _ e => e)
theorem en_call {elt iter : Expr} {a b : Str} {pa pb tp : Pos} {kk : Nat} {ifs : List Expr} {scope : Scope} {cl : List (Str × Addr)} {pos : Pos} {l : Addr} {nn : Nat} {vs : List Value} {news : Led} {use : Option (Value → Sem Unit)} {Q : Value → Shared → Prop}
    (c : Value) (R : Led → Value → Nat → Prop) (hR : ∀ l l' v i, R l v i → (∀ p ∈ l, p ∈ l') → R l' v i) (pz : Nat → Bool)
    (hh : A.handled = none) (hl : (l, listOf vs.toArray nn) ∈ news) (hsz : vs.length ≤ sizeLine)
    (hcell : ∀ y ∈ scope.names, y.2 ≠ .cell) (hkind : scope.kind = .function) (hxa : scope.names.lookup a = some .local) (hxb : scope.names.lookup b = some .local) (hab : ¬ a = b)
    (F : Fr h₀ L s.heap m) (N : News h₀ L s.heap news)
    (fin : ∀ D C h tk m' ys tl, Fr h₀ L h m → News h₀ L h ((D, lst ys) :: (tl ++ news)) → Off1 D (tl ++ news) → h.Ns C m' → h₀.get? C = none → h₀.get? D = none → C ≠ L → D ≠ L → C ≠ D → (∀ p ∈ tl ++ news, p.1 ≠ C) →
      All2 (R tl) ys ((List.range vs.length).filter pz) → (∀ q ∈ tl, q.2.cls = c) → (∀ q ∈ tl, ∀ p ∈ news, p.1 ≠ q.1) → compPost (model prog w) A E use Q (.ref D) C (.ok .next) { s with heap := h, toks := tk })
    (turn : ∀ (i : Nat) t v nx C oC m₂ h tk (E' : Value → Shared → Prop), vs[i]? = some v → NsObj oC m₂ → m₂ a = some (.int (i : Int) t) → m₂ b = some v → (C, oC) ∈ nx → (∀ p ∈ news, p ∈ nx) → Fr h₀ L h m → News h₀ L h nx →
      wpAny (model prog w) A (enTests ifs (compEnvC scope cl C env)) (EtEnd h₀ L m nx s (pz i = false) (fun s₃ => pz i = true ∧ wpAny (model prog w) A (eval elt (compEnvC scope cl C env)) (CbEnd h₀ L m nx s c (fun l y => R l y i)) E' s₃)) E' { s with heap := h, toks := tk }) :
    wpAny (model prog w) A (call (.type "enumerate") [.ref l]) (EnSrc prog w A E env elt (.Tuple [.Name a pa, .Name b pb] kk tp) iter ifs scope cl pos (fun _ => compPost (model prog w) A E use Q)) E s := by
  have hLs : L < s.heap.objs.size := F.ns.lt
  refine call_enumerate_list (s := s) ⟨_, (N _ hl).1, rfl, nn, rfl⟩ fun h' he hit hsz' hk => ?_
  unfold EnSrc
  refine wpAny_pyIter_enum he ?_
  have F' : Fr h₀ L h' m := F.keeps hk
  have N' : News h₀ L h' news := N.grown hk
  have low : ∀ p ∈ news, p.1 < s.heap.objs.size := fun p hp => Heap.lt_size (N p hp).1
  have n0 : ∀ a, s.heap.objs.size ≤ a → h₀.get? a = none := fun a ha => by
    cases e : h₀.get? a with
    | none => rfl
    | some o' => exact absurd (Heap.lt_size (F.keep a o' e)) (Nat.not_lt.mpr ha)
  exact en_block (s := { s with heap := h' }) R hR pz hh he hit hl hsz (Nat.succ_ne_self _) hcell hkind hxa hxb hab F' N' (Nat.ne_of_lt (Nat.lt_succ_of_lt hLs)) (Nat.ne_of_lt hLs) (n0 _ (Nat.le_succ _)) (n0 _ (Nat.le_refl _)) (fun p hp => Nat.ne_of_lt (Nat.lt_succ_of_lt (low p hp))) (fun p hp => Nat.ne_of_lt (low p hp)) turn fin
theorem en_finE {use : Value → Shared → Prop} {D C : Addr} {h : Heap} {tk : Nat} {m' : Vars} {ys : List Value} {nw : Led} (F : Fr h₀ L h m) (N : News h₀ L h ((D, lst ys) :: nw)) (hn : h.Ns C m') (hC₀ : h₀.get? C = none) (hCL : C ≠ L) (hCD : C ≠ D) (offC : ∀ p ∈ nw, p.1 ≠ C)
    (fin : ∀ h'', Fr h₀ L h'' m → News h₀ L h'' ((D, lst ys) :: nw) → use (.ref D) { s with heap := h'', toks := tk }) : compPost (model prog w) A E none use (.ref D) C (.ok .next) { s with heap := h, toks := tk } := by
  refine ⟨m', hn, fun h'' hs'' => fin h'' (F.change hs'' hCL hC₀) (fun p hp => ?_)⟩
  refine ⟨hs''.extBut _ _ ?_ (N p hp).1, (N p hp).2⟩
  rcases List.mem_cons.mp hp with rfl | hp
  · exact Ne.symm hCD
  · exact offC p hp
theorem en_finA {Q : Shared → Prop} {y : Str} {py : Pos} {D C : Addr} {h : Heap} {tk : Nat} {m' : Vars} {ys : List Value} {nw : Led} (hL : env.locals = L) (hy : env.kindOf y = some .local) (hp : (env.scope.kind == .class || (env.scope.kind == .module && env.locals != env.globals)) = false)
    (F : Fr h₀ L h m) (N : News h₀ L h ((D, lst ys) :: nw)) (hn : h.Ns C m') (hC₀ : h₀.get? C = none) (hCL : C ≠ L) (hCD : C ≠ D) (offC : ∀ p ∈ nw, p.1 ≠ C)
    (fin : ∀ h'' tk', Fr h₀ L h'' (fun z => if z = y then some (.ref D) else m z) → News h₀ L h'' ((D, lst ys) :: nw) → Q { s with heap := h'', toks := tk' }) : compPost (model prog w) A E (some (assign (.Name y py) env)) (fun _ s' => Q s') (.ref D) C (.ok .next) { s with heap := h, toks := tk } := by
  subst hL
  show wpAny _ A (assign (.Name y py) env (.ref D)) _ _ _
  refine wpAny_assign_Name (wpAny_storeName_local hy F.ns (fun h₂ hn₂ hs₂ => ?_) hp)
  have hL₀ : h₀.get? env.locals = none := Heap.get?_none_of_le F.above
  have F₂ : Fr h₀ env.locals h₂ (fun z => if z = y then some (.ref D) else m z) := ⟨hn₂, fun b o e => hs₂.extBut b o (fun q => by rw [q, hL₀] at e; cases e) (F.keep b o e), F.above⟩
  refine ⟨m', hn.sameBut hs₂ hCL, fun h'' hs'' => fin h'' _ (F₂.change hs'' hCL hC₀) (fun p hp => ?_)⟩
  have z : h₂.get? p.1 = some p.2 := hs₂.extBut _ _ (N p hp).2.1 (N p hp).1
  refine ⟨hs''.extBut _ _ ?_ z, (N p hp).2⟩
  rcases List.mem_cons.mp hp with rfl | hp
  · exact Ne.symm hCD
  · exact offC p hp
/-- [f for a, b in enumerate(l) if ..], its worth read on -/
theorem en_callE {elt iter : Expr} {a b : Str} {pa pb tp : Pos} {kk : Nat} {ifs : List Expr} {scope : Scope} {cl : List (Str × Addr)} {pos : Pos} {l : Addr} {nn : Nat} {vs : List Value} {news : Led} {Q : Value → Shared → Prop}
    (c : Value) (R : Led → Value → Nat → Prop) (hR : ∀ l l' v i, R l v i → (∀ p ∈ l, p ∈ l') → R l' v i) (pz : Nat → Bool)
    (hh : A.handled = none) (hl : (l, listOf vs.toArray nn) ∈ news) (hsz : vs.length < 10000)
    (hcell : ∀ y ∈ scope.names, y.2 ≠ .cell) (hkind : scope.kind = .function) (hxa : scope.names.lookup a = some .local) (hxb : scope.names.lookup b = some .local) (hab : ¬ a = b)
    (F : Fr h₀ L s.heap m) (N : News h₀ L s.heap news)
    (turn : ∀ (i : Nat) t v nx C oC m₂ h tk (E' : Value → Shared → Prop), vs[i]? = some v → NsObj oC m₂ → m₂ a = some (.int (i : Int) t) → m₂ b = some v → (C, oC) ∈ nx → (∀ p ∈ news, p ∈ nx) → Fr h₀ L h m → News h₀ L h nx →
      wpAny (model prog w) A (enTests ifs (compEnvC scope cl C env)) (EtEnd h₀ L m nx s (pz i = false) (fun s₃ => pz i = true ∧ wpAny (model prog w) A (eval elt (compEnvC scope cl C env)) (CbEnd h₀ L m nx s c (fun l y => R l y i)) E' s₃)) E' { s with heap := h, toks := tk })
    (fin : ∀ D h tk ys tl, Fr h₀ L h m → News h₀ L h ((D, lst ys) :: (tl ++ news)) → (∀ p ∈ tl, p.1 ≠ D) → Off1 D news → All2 (R tl) ys ((List.range vs.length).filter pz) → (∀ q ∈ tl, q.2.cls = c) → (∀ q ∈ tl, ∀ p ∈ news, p.1 ≠ q.1) → Q (.ref D) { s with heap := h, toks := tk }) :
    wpAny (model prog w) A (call (.type "enumerate") [.ref l]) (EnSrc prog w A E env elt (.Tuple [.Name a pa, .Name b pb] kk tp) iter ifs scope cl pos (fun _ => compPost (model prog w) A E none Q)) E s := by
  refine en_call c R hR pz hh hl (by rw [sizeLine_eq]; omega) hcell hkind hxa hxb hab F N (fun D C h tk m' ys tl F' N' o1 hn hC₀ hD₀ hCL hDL hCD offC hA hc hf => en_finE F' N' hn hC₀ hCL hCD offC fun h'' F'' N'' => ?_) turn
  exact fin D h'' tk ys tl F'' N'' (off1_app o1).1 (off1_app o1).2 hA hc hf
theorem en_callA {elt iter : Expr} {a b y : Str} {pa pb tp py : Pos} {kk : Nat} {ifs : List Expr} {scope : Scope} {cl : List (Str × Addr)} {pos : Pos} {l : Addr} {nn : Nat} {vs : List Value} {news : Led} {Q : Shared → Prop}
    (c : Value) (R : Led → Value → Nat → Prop) (hR : ∀ l l' v i, R l v i → (∀ p ∈ l, p ∈ l') → R l' v i) (pz : Nat → Bool)
    (hh : A.handled = none) (hl : (l, listOf vs.toArray nn) ∈ news) (hsz : vs.length < 10000) (hL : env.locals = L) (hy : env.kindOf y = some .local) (hp : (env.scope.kind == .class || (env.scope.kind == .module && env.locals != env.globals)) = false)
    (hcell : ∀ y ∈ scope.names, y.2 ≠ .cell) (hkind : scope.kind = .function) (hxa : scope.names.lookup a = some .local) (hxb : scope.names.lookup b = some .local) (hab : ¬ a = b)
    (F : Fr h₀ L s.heap m) (N : News h₀ L s.heap news)
    (turn : ∀ (i : Nat) t v nx C oC m₂ h tk (E' : Value → Shared → Prop), vs[i]? = some v → NsObj oC m₂ → m₂ a = some (.int (i : Int) t) → m₂ b = some v → (C, oC) ∈ nx → (∀ p ∈ news, p ∈ nx) → Fr h₀ L h m → News h₀ L h nx →
      wpAny (model prog w) A (enTests ifs (compEnvC scope cl C env)) (EtEnd h₀ L m nx s (pz i = false) (fun s₃ => pz i = true ∧ wpAny (model prog w) A (eval elt (compEnvC scope cl C env)) (CbEnd h₀ L m nx s c (fun l y => R l y i)) E' s₃)) E' { s with heap := h, toks := tk })
    (fin : ∀ D h tk ys tl, Fr h₀ L h (fun z => if z = y then some (.ref D) else m z) → News h₀ L h ((D, lst ys) :: (tl ++ news)) → (∀ p ∈ tl, p.1 ≠ D) → Off1 D news → All2 (R tl) ys ((List.range vs.length).filter pz) → (∀ q ∈ tl, q.2.cls = c) → (∀ q ∈ tl, ∀ p ∈ news, p.1 ≠ q.1) → Q { s with heap := h, toks := tk }) :
    wpAny (model prog w) A (call (.type "enumerate") [.ref l]) (EnSrc prog w A E env elt (.Tuple [.Name a pa, .Name b pb] kk tp) iter ifs scope cl pos (fun _ => compPost (model prog w) A E (some (assign (.Name y py) env)) (fun _ s' => Q s'))) E s := by
  refine en_call c R hR pz hh hl (by rw [sizeLine_eq]; omega) hcell hkind hxa hxb hab F N (fun D C h tk m' ys tl F' N' o1 hn hC₀ hD₀ hCL hDL hCD offC hA hc hf => en_finA hL hy hp F' N' hn hC₀ hCL hCD offC fun h'' tk'' F'' N'' => ?_) turn
  exact fin D h'' tk'' ys tl F'' N'' (off1_app o1).1 (off1_app o1).2 hA hc hf
end

end
section

section
variable {prog : Program} {w : World} {A : Around} {E : Value → Shared → Prop} {s : Shared} {env : Env} {h₀ : Heap} {body : List Stmt} {Q : Flow → Shared → Prop}
theorem fr_ns {L : Addr} {h h' : Heap} {m m' : Vars} (F : Fr h₀ L h m) (hn : h'.Ns L m') (up : ∀ c o, c ≠ L → h.get? c = some o → h'.get? c = some o) : Fr h₀ L h' m' := by
  have hL₀ : h₀.get? L = none := Heap.get?_none_of_le F.above
  exact ⟨hn, fun b o e => up b o (fun q => by rw [q, hL₀] at e; cases e) (F.keep b o e), F.above⟩
theorem enum_items {l I : Addr} {nn : Nat} {vs : List Value} {m₀ : Vars} {news : Led} {a b : Str} {pa pb tp : Pos} {kk : Nat} (zv : Str) (J : Nat → Option Value → Led → Prop)
    (hh : A.handled = none) (hl : (l, listOf vs.toArray nn) ∈ news) (ha : env.kindOf a = some .local) (hb : env.kindOf b = some .local) (hp : (env.scope.kind == .class || (env.scope.kind == .module && env.locals != env.globals)) = false)
    (hI : ∀ p ∈ news, p.1 < I)
    (turn : ∀ (i : Nat) t v pz mu ro h tk, vs[i]? = some v → J i pz mu → (∀ p ∈ news, p ∈ ro) → Apart mu ro → Fr h₀ env.locals h (fun y => if y = b then some v else if y = a then some (.int (i : Int) t) else if y = zv then pz else m₀ y) → News h₀ env.locals h (mu ++ ro) →
      wpAny (model prog w) A (execs body env) (MEnd h₀ env.locals b a zv m₀ ro (fun _ pz mu => J (i + 1) pz mu) { s with heap := h, toks := tk } Q) E { s with heap := h, toks := tk })
    (done : ∀ pb pa pz mu h tk, J vs.length pz mu → Apart mu news → Fr h₀ env.locals h (fun y => if y = b then pb else if y = a then pa else if y = zv then pz else m₀ y) → News h₀ env.locals h (mu ++ news) → Q .next { s with heap := h, toks := tk }) :
    ∀ (r : List Value) (i : Nat) (m : Vars) (mu : Led), i ≤ vs.length → vs.drop i = r → J i (m zv) mu → (∀ z, z ≠ b → z ≠ a → z ≠ zv → m z = m₀ z) → Apart mu news → (∀ p ∈ mu, p.1 ≠ I ∧ p.1 ≠ I + 1) →
      ItemsRest prog w A E h₀ env (.Tuple [.Name a pa, .Name b pb] kk tp) body Q s [(I + 1, "enumerate"), (I, "list_iterator")] [(l, listOf vs.toArray nn)] (enumItems i r) m (mu ++ news)
  | [], i, m, mu, hil, hr, hJ, hm, hap, _ => by
    refine ItemsRest.zero fun h tk F N => ?_
    have hi : vs.length = i := by
      rcases Nat.lt_or_ge i vs.length with q | q
      · rw [List.drop_eq_getElem_cons q] at hr; cases hr
      · omega
    rw [vars_out3 hm] at F
    exact done _ _ _ mu h tk (hi ▸ hJ) hap F N
  | v :: r, i, m, mu, hil, hr, hJ, hm, hap, hmu => by
    have hi : i < vs.length := by
      rcases Nat.lt_or_ge i vs.length with q | q
      · exact q
      · rw [List.drop_eq_nil_of_le q] at hr; cases hr
    rw [List.drop_eq_getElem_cons hi] at hr
    obtain ⟨hv, hr'⟩ := List.cons.inj hr
    have hv' : vs[i]? = some v := by rw [List.getElem?_eq_getElem hi, hv]
    refine ItemsRest.pair fun T t h tk hT F => AllObj.cons fun oe hoe => AllObj.cons fun oi hoi => AllObj.nil fun N => ?_
    have hT' : h.IsTuple T #[.int (i : Int) t, v] := hT
    refine kcp_assign hh hT' ha hb hp F.ns fun h' tk' hn' hs' => ?_
    have F' := fr_ns F hn' hs'
    have N' : News h₀ env.locals h' (mu ++ (news ++ [(I + 1, oe), (I, oi)])) := fun p hp => by
      have z := N p (by
        simp only [List.mem_append, List.mem_cons, List.not_mem_nil, or_false] at hp ⊢
        rcases hp with h | h | h | h
        · exact .inr (.inl h)
        · exact .inr (.inr h)
        · exact .inl (.inl h)
        · exact .inl (.inr h))
      exact ⟨hs' _ _ z.2.1 z.1, z.2⟩
    have hvars : (fun z => if z = b then some v else if z = a then some (Value.int (i : Int) t) else m z) = (fun y => if y = b then some v else if y = a then some (.int (i : Int) t) else if y = zv then m zv else m₀ y) := by
      funext z
      by_cases e : z = b
      · rw [if_pos e, if_pos e]
      · rw [if_neg e, if_neg e]
        by_cases f : z = a
        · rw [if_pos f, if_pos f]
        · rw [if_neg f, if_neg f]
          by_cases g : z = zv
          · rw [if_pos g, g]
          · rw [if_neg g, hm z e f g]
    rw [hvars] at F'
    have hro : Apart mu (news ++ [(I + 1, oe), (I, oi)]) := fun p hp q hq => by
      rcases List.mem_append.mp hq with hq | hq
      · exact hap p hp q hq
      · rcases List.mem_cons.mp hq with rfl | hq
        · exact Ne.symm (hmu p hp).2
        · rw [List.mem_singleton.mp hq]; exact Ne.symm (hmu p hp).1
    refine wpAny_mono (turn i t v _ mu (news ++ [(I + 1, oe), (I, oi)]) h' tk' hv' hJ (fun p hp => List.mem_append_left _ hp) hro F' N') (fun f s₃ q => ?_) fun _ _ e => e
    have up : MEnd h₀ env.locals b a zv m₀ (news ++ [(I + 1, oe), (I, oi)]) (fun _ pz mu => J (i + 1) pz mu) { s with heap := h', toks := tk' } Q .next s₃ →
        UnrEndW h₀ env.locals { s with heap := h, toks := tk } [(I + 1, oe), (I, oi)] (fun m' n' => SubL [(l, listOf vs.toArray nn)] n' ∧ ItemsRest prog w A E h₀ env (.Tuple [.Name a pa, .Name b pb] kk tp) body Q s [(I + 1, "enumerate"), (I, "list_iterator")] [(l, listOf vs.toArray nn)] (enumItems (i + 1) r) m' n') s₃ := by
      rintro ⟨h6, tk6, m6, mu6, rfl, F6, hm6, N6, ha6, hj6⟩
      have hmu6 : ∀ p ∈ mu6, p.1 ≠ I ∧ p.1 ≠ I + 1 := fun p hp => ⟨Ne.symm (ha6 p hp (I, oi) (by simp)), Ne.symm (ha6 p hp (I + 1, oe) (by simp))⟩
      refine ⟨h6, tk6, m6, mu6 ++ news, rfl, F6, fun p hp => N6 p ?_, fun p hp q hq => ?_, And.intro (List.mem_append_right _ hl) trivial, enum_items zv J hh hl ha hb hp hI turn done r (i + 1) m6 mu6 hi hr' hj6 hm6 (fun p hp q hq => ha6 p hp q (List.mem_append_left _ hq)) hmu6⟩
      · simp only [List.mem_append, List.mem_cons, List.not_mem_nil, or_false] at hp ⊢
        rcases hp with (h | h) | h | h
        · exact .inr (.inr (.inl h))
        · exact .inr (.inr (.inr h))
        · exact .inl h
        · exact .inr (.inl h)
      · have hb' : p.1 ≠ I ∧ p.1 ≠ I + 1 := by
          rcases List.mem_append.mp hp with hp | hp
          · exact hmu6 p hp
          · have := hI p hp
            exact ⟨Nat.ne_of_lt this, Nat.ne_of_lt (Nat.lt_succ_of_lt this)⟩
        rcases List.mem_cons.mp hq with rfl | hq
        · exact hb'.2
        · rw [List.mem_singleton.mp hq]; exact hb'.1
    cases f with
    | ret v => exact q
    | brk => exact q
    | next => exact up q
    | cont => exact up q
/-- for a, b in enumerate(l): .., a part mu of the ledger and the name zv change -/
theorem enum_mut {l : Addr} {nn : Nat} {vs : List Value} {m₀ : Vars} {mu₀ news : Led} {a b : Str} {pa pb tp : Pos} {kk : Nat} (zv : Str) (J : Nat → Option Value → Led → Prop)
    (hh : A.handled = none) (hl : (l, listOf vs.toArray nn) ∈ news) (ha : env.kindOf a = some .local) (hb : env.kindOf b = some .local) (hp : (env.scope.kind == .class || (env.scope.kind == .module && env.locals != env.globals)) = false)
    (F : Fr h₀ env.locals s.heap m₀) (N : News h₀ env.locals s.heap (mu₀ ++ news)) (hap : Apart mu₀ news) (hj : J 0 (m₀ zv) mu₀)
    (turn : ∀ (i : Nat) t v pz mu ro h tk, vs[i]? = some v → J i pz mu → (∀ p ∈ news, p ∈ ro) → Apart mu ro → Fr h₀ env.locals h (fun y => if y = b then some v else if y = a then some (.int (i : Int) t) else if y = zv then pz else m₀ y) → News h₀ env.locals h (mu ++ ro) →
      wpAny (model prog w) A (execs body env) (MEnd h₀ env.locals b a zv m₀ ro (fun _ pz mu => J (i + 1) pz mu) { s with heap := h, toks := tk } Q) E { s with heap := h, toks := tk })
    (done : ∀ pb pa pz mu h tk, J vs.length pz mu → Apart mu news → Fr h₀ env.locals h (fun y => if y = b then pb else if y = a then pa else if y = zv then pz else m₀ y) → News h₀ env.locals h (mu ++ news) → Q .next { s with heap := h, toks := tk }) :
    wpAny (model prog w) A (call (.type "enumerate") [.ref l]) (fun xv s₁ => wpAny (model prog w) A (pyIter xv) (fun it s₂ => TurnsAt prog w A h₀ env (.Tuple [.Name a pa, .Name b pb] kk tp) body Q E it s₂) E s₁) E s :=
  ktu_enum hh F N (List.mem_append_right _ hl) rfl rfl rfl fun I hI =>
    enum_items zv J hh hl ha hb hp (fun p hp => hI p (List.mem_append_right _ hp)) turn done vs 0 m₀ mu₀ (Nat.zero_le _) rfl hj (fun _ _ _ _ => rfl) hap fun p hp => by
      have := hI p (List.mem_append_left _ hp)
      exact ⟨Nat.ne_of_lt this, Nat.ne_of_lt (Nat.lt_succ_of_lt this)⟩
end

end
noncomputable def pick {α : Type} (is : List Nat) (l : List α) : List α := is.filterMap fun i => l[i]?
noncomputable def view : Program := { PySem.Challenge.rw_pc0127_01.row.toRowW.prog with main := { PySem.Challenge.rw_pc0127_01.row.toRowW.prog.main with body := pick [0, 2, 3, 5, 6, 8, 9, 10, 11] PySem.Challenge.rw_pc0127_01.row.toRowW.prog.main.body } }
section
local macro_rules | `(tactic| o_head $H) => `(tactic| (
  apply holds_open (q := Mine.view) (loose := [Str.ofString "LedgerError", Str.ofString "KeyFile"]) (Xt := fun s => xlAt Mine.view [] s && recOk (RowW.records PySem.Challenge.rw_pc0127_01.row.toRowW) s) (XP := XL Mine.view []) (Yf := Hook.obs $H) (Ya := Hook.val $H) (YP := Hook.says $H) (N := 3162) (hY := Hook.of $H) (hYk := Hook.keeps $H) (hX := fun s e => xl_of s (Bool.and_eq_true_iff.mp e).1) (hXk := XL.keeps) (hdef := by rfl) (hp := by rfl) (hk := by rfl) (hRf := fun s e => recFacts_of (Bool.and_eq_true_iff.mp e).2) (hwr := by rfl) (k1 := by first | assumption | decide +kernel) (ok := by decide +kernel) (hb := ⟨rfl, rfl, rfl, rfl, rfl, by decide +kernel⟩)
  focus (intro w; kernel_rfl!)))
open_top hd for PySem.Challenge.rw_pc0127_01
end
theorem calm : True := by
  w_top off
  trivial
/-! ## contracts -/
/-- the contract of a def of the text: from any frame with this ledger, the call comes back -/
def Sp (w : World) (mean : ExcName → Option Value) (mg mb : Str → Option Value) (f : Addr) (args : List Value) (dp un : Nat) (news : Led) (Post : Value → Led → Prop) : Prop :=
  ∀ (d u : Nat) (gd : Option (List Code)) (cn : Str) (cs : Scope) (a : Addr) (ccd : Value) (cl : List (Str × Addr)) (outer : List Env) (A₀ : Around) (base h₀ : Heap) (L : Addr) (m : Str → Option Value) (s : Shared)
    (Q E : Value → Shared → Prop),
    Below A₀ base outer h₀ → Fr h₀ L s.heap m → (hd.heap_39 w.params).In h₀ → News h₀ L s.heap news → Top view (looseW view [Str.ofString "LedgerError", Str.ofString "KeyFile"]) mean mg mb h₀ → cs.kind = .function →
    d + dp < recursionLimit → u + un < cLine →
    (∀ r news' h' tk', Fr h₀ L h' m → News h₀ L h' news' → Post r news' → Q r { s with heap := h', toks := tk' }) →
    wpAny (model Challenge.rw_pc0127_01.row.prog w) (ktrTop d u gd cn cs L a ccd cl outer) (call (.ref f) args) Q E s
section
variable {w : World} {mean : ExcName → Option Value} {mg mb : Str → Option Value} {f : Addr} {args : List Value} {dp un : Nat} {news : Led} {Post : Value → Led → Prop}
theorem Sp.use (C : Sp w mean mg mb f args dp un news Post) {d u : Nat} {gd : Option (List Code)} {cn : Str} {cs : Scope} {a : Addr} {ccd : Value} {cl : List (Str × Addr)} {outer : List Env} {A₀ : Around} {base h₀ : Heap} {L : Addr} {m : Str → Option Value} {s : Shared}
    {Q E : Value → Shared → Prop} (B : Below A₀ base outer h₀) (F : Fr h₀ L s.heap m) (X : (hd.heap_39 w.params).In h₀) (N : News h₀ L s.heap news) (T : Top view (looseW view [Str.ofString "LedgerError", Str.ofString "KeyFile"]) mean mg mb h₀) (hk : cs.kind = .function)
    (hd : d + dp < recursionLimit) (hu : u + un < cLine)
    (ret : ∀ r news' h' tk', Fr h₀ L h' m → News h₀ L h' news' → Post r news' → Q r { s with heap := h', toks := tk' }) :
    wpAny (model Challenge.rw_pc0127_01.row.prog w) (ktrTop d u gd cn cs L a ccd cl outer) (call (.ref f) args) Q E s :=
  C _ _ _ _ _ _ _ _ _ _ _ _ _ _ _ _ _ B F X N T hk hd hu ret
end
/-- a mark at which the steps halt -/
def Stop (P : Prop) : Prop := P
theorem stop_ {P : Prop} (h : Stop P) : P := h
theorem Stop.go {P : Prop} (h : P) : Stop P := h
section
variable {prog : Program} {w : World} {A : Around} {E : Value → Shared → Prop} {s : Shared} {value slice : PySem.Expr} {h₀ : Heap} {L : Addr} {m : Str → Option Value} {news : Led} {Q : Value → Shared → Prop}
theorem item_led {l : Addr} {vs : List Value} {n : Nat} {k : Int} {u : Tok} {v : Value}
    (N : News h₀ L s.heap news) (hl : (l, listOf vs.toArray n) ∈ news) (h0 : 0 ≤ k) (hv : vs[k.toNat]? = some v) (hhi : k < 2 ^ 40) (h : Q v s)
    (hs : subscripted slice false (.ref l) (.int k u) = operate [.ref l, .int k u] (getItem (.ref l) (.int k u)) := by with_unfolding_all rfl) :
    wpAny (model prog w) A (subscriptTail value slice (.ref l) (.int k u)) Q E s := by
  have hls : s.heap.IsList l vs.toArray := ⟨_, (N _ hl).1, rfl, n, rfl⟩
  exact tail_any hls.typeIs slot_list_getitem.lookup (wpAny_getItem_list hls h0 (by omega) (by simpa using hv) h) hs
theorem slice_by {b : By} {t : Tok} {l u : Value} {lo hi : Option Int}
    (hF : Fr h₀ L s.heap m) (hN : News h₀ L s.heap news) (hl : IsPart l lo) (hu : IsPart u hi) (hz : b.size < 10000)
    (h : ∀ h' t' k, Fr h₀ L h' m → News h₀ L h' news → Q (.bytes (KBy.picked b lo hi) t') { s with heap := h', toks := k })
    (hs : subscripted slice false (.bytes b t) (.ref s.heap.objs.size) = operate [.ref s.heap.objs.size, .bytes b t] (getItem (.bytes b t) (.ref s.heap.objs.size)) := by with_unfolding_all rfl)
    (ht : ∀ r, letTemporaryGo value (.bytes b t) r = pure () := by intro _; with_unfolding_all rfl) :
    wpAny (model prog w) A (subscriptTail value slice (.bytes b t) (.ref s.heap.objs.size)) Q E { s with heap := s.heap.push { cls := .type "slice", data := .fields #[l, u, .none] } } :=
  KBc.slice_K hF hN rfl hl hu (by rw [KBw.ints_length]; omega) (fun h' t' k F N _ => h h' t' k F N) hs ht
theorem len_led {l : Addr} {vs : List Value} {n : Nat} (N : News h₀ L s.heap news) (hl : (l, listOf vs.toArray n) ∈ news) (hz : vs.length < 10000)
    (h : Q (.int (vs.length : Int) (s.toks + 1)) { s with toks := s.toks + 1 + 1 }) : wpAny (model prog w) A (call (.builtin "len") [.ref l]) Q E s := kst_len N hl rfl (by omega) h
end
/-- the dict of the file's object -/
abbrev kfd (H : Nat → Int) (T : Nat → Tok) (c : Addr) (md ac : Value) (kl st : Addr) (ns wh : Value) (at_ : Addr) (nw rl hi : Value) : Obj := dictOf [
  ⟨H 0, .str (Str.ofString "content") (T 0), .ref c⟩, ⟨H 1, .str (Str.ofString "mode") (T 1), md⟩, ⟨H 2, .str (Str.ofString "access") (T 2), ac⟩, ⟨H 3, .str (Str.ofString "keys") (T 3), .ref kl⟩,
  ⟨H 4, .str (Str.ofString "stamps") (T 4), .ref st⟩, ⟨H 5, .str (Str.ofString "next_stamp") (T 5), ns⟩, ⟨H 6, .str (Str.ofString "which") (T 6), wh⟩, ⟨H 7, .str (Str.ofString "at") (T 7), .ref at_⟩,
  ⟨H 8, .str (Str.ofString "is_nowhere") (T 8), nw⟩, ⟨H 9, .str (Str.ofString "read_last") (T 9), rl⟩, ⟨H 10, .str (Str.ofString "highest") (T 10), hi⟩] 11
/-- a key's row in the ledger -/
def KeyIn (news : Led) (v : Value) (k : Int × Int × Bool) : Prop := ∃ a t1 t2 n, v = .ref a ∧ (a, tupOf #[.int k.1 t1, .int k.2.1 t2, .bool k.2.2] n) ∈ news
/-- a row of stamps: so many times the one int -/
def StIn (q : Nat) (news : Led) (v : Value) (s : Int) : Prop := ∃ a us n, v = .ref a ∧ (a, listOf (us : List Value).toArray n) ∈ news ∧ us.length = q ∧ ∀ u ∈ us, ∃ t, u = .int s t
/-- the part of a record that a key tells -/
def wor (k : Int × Int × Bool) (b : By) : By := KBy.picked b (some k.1) (some (k.1 + k.2.1))
theorem RoEnd.ret {h₀ : Heap} {L : Addr} {x : Str} {m₀ : Vars} {nx : Led} {P : Prop} {s s₂ : Shared} {Q : Flow → Shared → Prop} {v : Value} (h : Q (.ret v) s₂) : RoEnd h₀ L x m₀ nx P s Q (.ret v) s₂ := h
theorem newsSub {h₀ : Heap} {L : Addr} {h : Heap} {news nx : Led} (N : News h₀ L h nx) (hs : ∀ p ∈ news, p ∈ nx) : News h₀ L h news := fun p hp => N p (hs p hp)
theorem my_mem {p : Addr × Obj} {l : Led} (h : p ∈ l) : List.Mem p l := h
theorem off_and {P : Prop} {D : Addr} {rest : Led} (h : P ∧ AllLt D rest) : ∀ p ∈ rest, p.1 ≠ D := fun p hp => Nat.ne_of_lt (kst_ltOf h.2 p hp)
theorem off_lt {D : Addr} {rest : Led} (h : AllLt D rest) : ∀ p ∈ rest, p.1 ≠ D := fun p hp => Nat.ne_of_lt (kst_ltOf h p hp)
/-- a row's key: what the record shows at this key, and its stamp -/
def kkey (k : Int × Int × Bool) (cs : List By) (S : List Int) (i : Nat) : By × Int := (wor k (cs.getD i #[]), S.getD i 0)
/-- a row that «ordered» makes -/
def ORow (led : Led) (g : Nat → By × Int) (v : Value) (i : Nat) : Prop := ∃ a t u x n, v = .ref a ∧ (a, tupOf #[.bytes (g i).1 t, .int (g i).2 u, .int (i : Int) x] n) ∈ led
theorem ORow.mono {led led' : Led} {g : Nat → By × Int} {v : Value} {i : Nat} (h : ORow led g v i) (hs : ∀ p ∈ led, p ∈ led') : ORow led' g v i := let ⟨a, t, u, x, n, e, hm⟩ := h; ⟨a, t, u, x, n, e, hs _ hm⟩
theorem KeyIn.mono {led led' : Led} {v : Value} {k : Int × Int × Bool} (h : KeyIn led v k) (hs : ∀ p ∈ led, p ∈ led') : KeyIn led' v k := let ⟨a, t1, t2, n, e, hm⟩ := h; ⟨a, t1, t2, n, e, hs _ hm⟩
theorem StIn.mono {q : Nat} {led led' : Led} {v : Value} {k : Int} (h : StIn q led v k) (hs : ∀ p ∈ led, p ∈ led') : StIn q led' v k := let ⟨a, us, n, e, hm, r⟩ := h; ⟨a, us, n, e, hs _ hm, r⟩
theorem BuildEnd.next {h₀ : Heap} {L : Addr} {x : Str} {m₀ m' : Vars} {fl : Addr} {vs : List Value} {rest : Led} {R : Led → Value → Prop} {s : Shared} {Q : Flow → Shared → Prop} {h' : Heap} {tk' : Nat} {a : Addr} {o : Obj} {v : Value} {c' : Nat}
    (F : Fr h₀ L h' m') (N : News h₀ L h' ((a, o) :: (fl, listOf (vs ++ [v]).toArray c') :: rest)) (hm : ∀ z, z ≠ x → m' z = m₀ z) (hv : R [(a, o)] v) (ho : o.cls = .type "tuple") (ha : a ≠ fl) (hq : ∀ q ∈ rest, q.1 ≠ a) :
    BuildEnd h₀ L x m₀ fl vs rest R s Q .next { s with heap := h', toks := tk' } := ⟨h', tk', m', v, a, o, c', rfl, F, hm, N, hv, ho, ha, hq⟩
theorem off_all {D : Addr} {rest : Led} (h : ∀ p ∈ rest, p.1 < D) : ∀ p ∈ rest, p.1 ≠ D := fun p hp => Nat.ne_of_lt (h p hp)
theorem keys_cons {l : Led} {p : Addr × Obj} {vk : List Value} {ks : List (Int × Int × Bool)} (h : All2 (KeyIn l) vk ks) : All2 (KeyIn (p :: l)) vk ks := h.mono fun _ _ q => q.mono fun _ hp => List.mem_cons_of_mem _ hp
theorem stamps_cons {q : Nat} {l : Led} {p : Addr × Obj} {vk : List Value} {S : List Int} (h : All2 (StIn q l) vk S) : All2 (StIn q (p :: l)) vk S := h.mono fun _ _ q => q.mono fun _ hp => List.mem_cons_of_mem _ hp
theorem ORow.row {led : Led} {g : Nat → By × Int} {v : Value} {i : Nat} (h : ORow led g v i) : RowIn led v (g i) := let ⟨a, t, u, x, n, e, hm⟩ := h; ⟨a, _, t, u, n, e, hm⟩
theorem RowIn.mono {led led' : Led} {v : Value} {k : By × Int} (h : RowIn led v k) (hs : ∀ p ∈ led, p ∈ led') : RowIn led' v k := let ⟨a, x, t, u, n, e, hm⟩ := h; ⟨a, x, t, u, n, e, hs _ hm⟩
theorem All2.map_right {α β γ : Type} {P : α → β → Prop} {R : α → γ → Prop} {vs : List α} {ks : List β} {g : β → γ} (h : All2 P vs ks) (hp : ∀ v k, P v k → R v (g k)) : All2 R vs (ks.map g) :=
  ⟨by rw [List.length_map]; exact h.len, fun i v k a b => by
    rw [List.getElem?_map] at b
    cases e : ks[i]? with
    | none => rw [e] at b; cases b
    | some j => rw [e] at b; simp only [Option.map_some, Option.some.injEq] at b; subst b; exact hp _ _ (h.at_ i v j a e)⟩
theorem range_pick {n : Nat} {p : List Nat} (hp : p.Perm (List.range n)) : (p.map fun i => (List.range n).getD i 0) = p := by
  have : ∀ i ∈ p, (List.range n).getD i 0 = i := fun i hi => by
    have := List.mem_range.mp (hp.mem_iff.mp hi)
    simp [this]
  rw [List.map_congr_left this]; simp
theorem kkey_snd {k : Int × Int × Bool} {cs : List By} {S : List Int} (h : S.length = cs.length) : ((List.range cs.length).map (kkey k cs S)).map (·.2) = S := by
  rw [← h]
  apply List.ext_getElem?
  intro i
  by_cases hi : i < S.length
  · simp [kkey, hi]
  · simp [Nat.le_of_not_lt hi]
theorem kkey_pick {k : Int × Int × Bool} {cs : List By} {S : List Int} {p : List Nat} (hp : p.Perm (List.range cs.length)) : (p.map fun i => ((List.range cs.length).map (kkey k cs S)).getD i (#[], 0)) = p.map (kkey k cs S) := by
  refine List.map_congr_left fun i hi => ?_
  have := List.mem_range.mp (hp.mem_iff.mp hi)
  simp [this]
theorem lt_of_pick {n : Nat} {p : List Nat} (hp : p.Perm (List.range n)) : ∀ i ∈ p, i < n := fun _ hi => List.mem_range.mp (hp.mem_iff.mp hi)
theorem off_up {D D' : Addr} {rest : Led} (h : ∀ p ∈ rest, p.1 < D) (hd : D ≤ D') : ∀ p ∈ rest, p.1 ≠ D' := fun p hp => Nat.ne_of_lt (Nat.lt_of_lt_of_le (h p hp) hd)
theorem tail_all {P : Addr × Obj → Prop} {q : Addr × Obj} {rest : Led} (h : ∀ p ∈ q :: rest, P p) : ∀ p ∈ rest, P p := fun p hp => h p (List.mem_cons_of_mem _ hp)

/-- new objects, off all that was -/
def Fresh (extra l : Led) : Prop := ∀ e ∈ extra, ∀ p ∈ l, p.1 ≠ e.1
theorem Fresh.nil {l : Led} : Fresh [] l := fun _ h => nomatch h
section
variable {w : World} {mean : ExcName → Option Value} {mg mb : Str → Option Value} {f : Addr} {args : List Value} {dp un : Nat} {news : Led}
theorem Sp.sub {l : Led} {Post : Value → Led → Prop} (C : Sp w mean mg mb f args dp un l Post) (hs : ∀ p ∈ l, p ∈ news) : Sp w mean mg mb f args dp un news Post :=
  fun d u gd cn cs a ccd cl outer A₀ base h₀ L m s Q E B F X N T hk hd hu ret => C d u gd cn cs a ccd cl outer A₀ base h₀ L m s Q E B F X (newsSub N hs) T hk hd hu ret
theorem Sp.mono {Post Post' : Value → Led → Prop} (C : Sp w mean mg mb f args dp un news Post) (hp : ∀ r nw, Post r nw → ∃ nw', Post' r nw' ∧ ∀ p ∈ nw', p ∈ nw) : Sp w mean mg mb f args dp un news Post' :=
  fun d u gd cn cs a ccd cl outer A₀ base h₀ L m s Q E B F X N T hk hd hu ret => C d u gd cn cs a ccd cl outer A₀ base h₀ L m s Q E B F X N T hk hd hu fun r nw h' tk' F' N' P => let ⟨nw', P', hs⟩ := hp r nw P; ret r nw' h' tk' F' (newsSub N' hs) P'
/-- one object of the ledger changes -/
theorem Sp.upd {d : Addr} {D : Obj} {g : Obj → Led} {P : Value → Led → Obj → Prop} (U : UpdF d D news g)
    (C : ∀ rest, (∀ p ∈ rest, p.1 ≠ d) → (∀ p ∈ news, p.1 ≠ d → p ∈ rest) → Sp w mean mg mb f args dp un ((d, D) :: rest) (fun r nw => ∃ extra D', nw = extra ++ (d, D') :: rest ∧ Fresh extra ((d, D) :: rest) ∧ P r extra D')) :
    Sp w mean mg mb f args dp un news (fun r nw => ∃ extra D', nw = extra ++ g D' ∧ Fresh extra news ∧ P r extra D') := by
  obtain ⟨pre, post, rfl, hg, h1, h2⟩ := U.split
  refine Sp.mono (Sp.sub (C (pre ++ post) (fun p hp => (List.mem_append.mp hp).elim (h1 p) (h2 p)) fun p hp hne => ?_) fun p hp => ?_) fun r nw ⟨extra, D', e, fr, hP⟩ => ⟨extra ++ g D', ⟨extra, D', rfl, fun x hx p hp => ?_, hP⟩, fun p hp => ?_⟩
  · rcases List.mem_append.mp hp with hp | hp
    · exact List.mem_append_left _ hp
    · rcases List.mem_cons.mp hp with rfl | hp
      · exact absurd rfl hne
      · exact List.mem_append_right _ hp
  · rcases List.mem_cons.mp hp with rfl | hp
    · exact List.mem_append_right _ List.mem_cons_self
    · rcases List.mem_append.mp hp with hp | hp
      · exact List.mem_append_left _ hp
      · exact List.mem_append_right _ (List.mem_cons_of_mem _ hp)
  · rcases List.mem_append.mp hp with hp | hp
    · exact fr x hx p (List.mem_cons_of_mem _ (List.mem_append_left _ hp))
    · rcases List.mem_cons.mp hp with rfl | hp
      · exact fr x hx (d, D) List.mem_cons_self
      · exact fr x hx p (List.mem_cons_of_mem _ (List.mem_append_right _ hp))
  · rw [hg] at hp
    rw [e]
    rcases List.mem_append.mp hp with hp | hp
    · exact List.mem_append_left _ hp
    · rcases List.mem_append.mp hp with hp | hp
      · exact List.mem_append_right _ (List.mem_cons_of_mem _ (List.mem_append_left _ hp))
      · rcases List.mem_cons.mp hp with rfl | hp
        · exact List.mem_append_right _ List.mem_cons_self
        · exact List.mem_append_right _ (List.mem_cons_of_mem _ (List.mem_append_right _ hp))
end
/-- the ledger less an address -/
def offL (d : Addr) (l : Led) : Led := l.filter fun p => decide (p.1 ≠ d)
theorem offL_ne {d : Addr} {l : Led} : ∀ p ∈ offL d l, p.1 ≠ d := fun p hp => of_decide_eq_true (List.mem_filter.mp hp).2
theorem offL_mem {d : Addr} {l : Led} {p : Addr × Obj} (h : p ∈ l) (hne : p.1 ≠ d) : p ∈ offL d l := List.mem_filter.mpr ⟨h, decide_eq_true hne⟩
theorem offL_sub {d : Addr} {l : Led} : ∀ p ∈ offL d l, p ∈ l := fun p hp => (List.mem_filter.mp hp).1
section
variable {prog : Program} {w : World} {A : Around} {E : Value → Shared → Prop} {s : Shared} {Q : Value → Shared → Prop}
theorem add_by {b c : By} {t u : Tok} (hz : b.size < 100000) (hz2 : c.size < 100000) (h : ∀ t' k, Q (.bytes (b ++ c) t') { s with toks := k }) : wpAny (model prog w) A (binaryOp .Add (.bytes b t) (.bytes c u)) Q E s :=
  KBa.add_K rfl rfl (by rw [KBw.ints_length, KBw.ints_length]; omega) fun t' k _ => h t' k
end
theorem wor_size (k : Int × Int × Bool) (b : By) : (wor k b).size ≤ b.size := KBc.size_picked_le b _ _
theorem app_swap {l l' : Led} : ∀ p ∈ l ++ l', p ∈ l' ++ l := fun _ hp => (List.mem_append.mp hp).elim (List.mem_append_right _) (List.mem_append_left _)
theorem my_memL {p : Addr × Obj} {l l' : Led} (h : List.Mem p l) : List.Mem p (l ++ l') := List.mem_append_left _ h
theorem all_app {P : Addr × Obj → Prop} {l l' : Led} (h : ∀ p ∈ l, P p) (h' : ∀ p ∈ l', P p) : ∀ p ∈ l ++ l', P p := fun p hp => (List.mem_append.mp hp).elim (h p) (h' p)
theorem keys_sub {l l' : Led} {vk : List Value} {ks : List (Int × Int × Bool)} (h : All2 (KeyIn l) vk ks) (hs : ∀ p ∈ l, p ∈ l') : All2 (KeyIn l') vk ks := h.mono fun _ _ q => q.mono hs
theorem stamps_sub {q : Nat} {l l' : Led} {vk : List Value} {S : List Int} (h : All2 (StIn q l) vk S) (hs : ∀ p ∈ l, p ∈ l') : All2 (StIn q l') vk S := h.mono fun _ _ q => q.mono hs
theorem my_memS {p : Addr × Obj} {l nx : Led} (hs : ∀ q ∈ l, q ∈ nx) (h : List.Mem p l) : List.Mem p nx := hs p h
theorem srcAt_led {h₀ : Heap} {a : Addr} {its : Array Value} {n : Nat} {l : Led} (h : (a, listOf its n) ∈ l) : PyProof.Rows.LCg.SrcAt h₀ a its l := .inr ⟨_, h, rfl, n, rfl⟩
theorem and_tt {p q : Prop} [Decidable p] [Decidable q] (h : p) (k : q) : (decide p && decide q) = true := by simp [h, k]
theorem and_ff1 {p q : Prop} [Decidable p] [Decidable q] (h : ¬p) : (decide p && decide q) = false := by simp [h]
theorem and_ff2 {p q : Prop} [Decidable p] [Decidable q] (k : ¬q) : (decide p && decide q) = false := by simp [k]
/-- is row j behind row i, with the same key -/
def isLater (k : Int × Int × Bool) (cs : List By) (S : List Int) (i j : Nat) : Bool := decide ((kkey k cs S j).1 = (kkey k cs S i).1) && decide ((kkey k cs S i).2 < (kkey k cs S j).2)
def later (k : Int × Int × Bool) (cs : List By) (S : List Int) (i : Nat) : Bool := (List.range cs.length).any (isLater k cs S i)
theorem later_of {R : Value → Nat → Prop} {k : Int × Int × Bool} {cs : List By} {S : List Int} {i : Nat} {p : List Nat} {ys : List Value} (hy : All2 R ys (p.filter (isLater k cs S i))) (hp : p.Perm (List.range cs.length)) : decide (ys.toArray.size = 0) = !later k cs S i := by
  rw [List.size_toArray, hy.len]
  have e : later k cs S i = p.any (isLater k cs S i) := by
    unfold later
    rw [Bool.eq_iff_iff, List.any_eq_true, List.any_eq_true]
    constructor <;> rintro ⟨j, hj, h⟩
    · exact ⟨j, hp.mem_iff.mpr hj, h⟩
    · exact ⟨j, hp.mem_iff.mp hj, h⟩
  rw [e, Bool.eq_iff_iff]
  simp only [decide_eq_true_eq, Bool.not_eq_true', List.length_eq_zero_iff, List.filter_eq_nil_iff, List.any_eq_false]
/-- the status of a row found -/
def fstat (k : Int × Int × Bool) (cs : List By) (S : List Int) (wi : Int) (i : Nat) : Str := if 0 < wi ∧ later k cs S i = true then Str.ofString "02" else Str.ofString "00"
/-- where the file stands behind a row found -/
def fat (k : Int × Int × Bool) (cs : List By) (S : List Int) (wi : Int) (i : Nat) : By × Int := if 0 < wi then kkey k cs S i else ((kkey k cs S i).1 ++ #[0], -1)
section
variable {k : Int × Int × Bool} {cs : List By} {S : List Int} {wi : Int} {i : Nat} {n : Prop} [Decidable n]
theorem fst_02 (h : 0 < wi) (hl : decide n = !later k cs S i) (hn : ¬n) : fstat k cs S wi i = Str.ofString "02" := by
  rw [decide_eq_false hn] at hl
  unfold fstat
  rw [if_pos ⟨h, by simpa using hl.symm⟩]
theorem fst_00 (hl : decide n = !later k cs S i) (hn : n) : fstat k cs S wi i = Str.ofString "00" := by
  rw [decide_eq_true hn] at hl
  unfold fstat
  rw [if_neg fun q => by rw [q.2] at hl; cases hl]
theorem fst_0 (h : ¬0 < wi) : fstat k cs S wi i = Str.ofString "00" := if_neg fun q => h q.1
theorem fat_1 (h : 0 < wi) : fat k cs S wi i = kkey k cs S i := if_pos h
theorem fat_0 (h : ¬0 < wi) : fat k cs S wi i = ((kkey k cs S i).1 ++ #[0], -1) := if_neg h
end
section
variable {prog : Program} {w : World} {A : Around} {E : Value → Shared → Prop} {s : Shared} {Q : Value → Shared → Prop}
theorem notIn_ff {a : Addr} {x p q : Str} {t t1 t2 : Tok} {n : Nat} (ha : s.heap.get? a = some (⟨.type "tuple", none, .seq #[.str p t1, .str q t2] n, #[]⟩ : Obj)) (hm : (decide (p = x) || decide (q = x)) = true) (h : Q (.bool false) s) :
    wpAny (model prog w) A (compareOp .NotIn (.str x t) (.ref a)) Q E s := notIn_two ha (by rw [hm]; exact h)
theorem eq_str_ff {x y : Str} {t u : Tok} (hne : x ≠ y) (h : Q (.bool false) s) : wpAny (model prog w) A (compareOp .Eq (.str x t) (.str y u)) Q E s := PyProof.Rows.eq_str (by rw [show (x == y) = false from beq_eq_false_iff_ne.mpr hne]; exact h)
theorem eq_str_tt {x : Str} {t u : Tok} (h : Q (.bool true) s) : wpAny (model prog w) A (compareOp .Eq (.str x t) (.str x u)) Q E s := PyProof.Rows.eq_str (by rw [beq_self_eq_true]; exact h)
end
/-- the row that a reading in order gives next: the least above where the file stands -/
def Nxt (k : Int × Int × Bool) (cs : List By) (S : List Int) (a : By × Int) (i : Nat) : Prop := i < cs.length ∧ rowLt a (kkey k cs S i) = true ∧ ∀ j, j < cs.length → rowLt a (kkey k cs S j) = true → j = i ∨ rowLt (kkey k cs S i) (kkey k cs S j) = true
theorem tup_dict : Value.type "tuple" ≠ Value.type "dict" := by decide
theorem tup_list : Value.type "tuple" ≠ Value.type "list" := by decide
theorem dict_list : Value.type "dict" ≠ Value.type "list" := by decide

local macro_rules | `(tactic| walk_at $s:str) => `(tactic| k_extra $s)
local macro_rules | `(tactic| walk_at "my use") => `(tactic| ((case k1 | k2 | k3 | k4 | k5 => k_asm); (case k6 => first | exact rfl | assumption); (case k7 => ktr_room); (case k8 => ktr_units)))
local macro_rules | `(tactic| walk_at "my ent") => `(tactic| ((case k1 | k2 | k3 | k4 | k5 => k_asm); (case k6 | k7 => k_is); (case k8 => ktr_room); (case k9 => first | exact BindsTo.of_eq rfl | exact binds_K (by k_in) rfl (by k_is) rfl rfl rfl)))
local macro_rules | `(tactic| k_all) => `(tactic| first | assumption | kst_allNe)
local macro_rules | `(tactic| walk_at "subscriptTail") => `(tactic| (k_here; (with_reducible show wpAny _ _ (subscriptTail _ _ (Value.ref _) (Value.int _ _)) _ _ _); (with_unfolding_all refine' item_led ?k1 ?k2 ?k3 ?k4 ?k5 ?_ ?k6; (case k1 => k_asm); (case k2 => k_mem); (case k3 => first | assumption | omega); (case k4 => assumption); (case k5 => omega); (case k6 => with_unfolding_all rfl); k_whole)))
local macro_rules | `(tactic| walk_at "subscriptTail") => `(tactic| (k_here; (with_reducible show wpAny _ _ (subscriptTail _ (Expr.Slice _ _ none _) (Value.bytes _ _) (Value.ref _)) _ _ _); (with_reducible rename Fr _ _ _ _ => F'); (with_reducible rename News _ _ _ _ => N'); (refine slice_by (s := ⟨_, _, _, _, _⟩) F' N' (by constructor) (by constructor) (by first | assumption | exact Nat.le_of_ble_eq_true rfl) ?_); intro h' t' k' F' N'; (try k_sweep)))
local macro_rules | `(tactic| walk_at "call builtin:len") => `(tactic| (k_here; (with_reducible show wpAny _ _ (call (Value.builtin "len") [Value.ref _]) _ _ _); k_dflt (refine' len_led ?k1 ?k2 ?k3 ?_; (case k1 => k_asm); (case k2 => k_mem); (case k3 => first | assumption | omega); k_whole)))
local macro_rules | `(tactic| walk_at "my for") => `(tactic| (refine Stop.go ?_; (rename Fr _ _ _ _ => lF'); (with_unfolding_all refine' For_invVF lF' ?k1 ?k2 ?_; (case k1 | k2 => exact rfl)); (try k_fold); k_steps; refine Stop.go ?_))
local macro_rules | `(tactic| k_mem) => `(tactic| (refine my_mem ?_; ktr_member))
local macro_rules | `(tactic| walk_at "my enterC") => `(tactic| (refine' code_defC ?k1 ?k2 ?k3 ?k4 ?k5 ?kA ?kF ?kK ?k6 ?k7 ?k8 ?k9 ?kB ?kD ?_ ?c2 ?c3 ?c4; (case kA | kF => exact rfl); (case kK => first | exact rfl | assumption); walk_at "my ent"; (case kB => exact rfl); (case kD => decide +kernel); (case c2 | c3 | c4 => exact rfl); k_whole; intro g' L' h' tk' cells' FG' F' N' Y' B' X' T' l1; (have l2 := off_up l1 (Nat.le_add_right L' 1)); (have l3 := off_up l1 (Nat.le_add_right L' 2)); (have l4 := off_up l1 (Nat.le_add_right L' 3)); (try have l2t := tail_all l2); (try have l3t := tail_all l3); (try k_lt l1); k_cells Y'; (try simp only [List.cons_append, List.nil_append] at N'); (try dsimp only); (try k_fold)))
local macro_rules | `(tactic| walk_at "binaryOp Add bytes bytes") => `(tactic| (k_here; (refine add_by (by first | assumption | decide | omega) (by first | assumption | decide | omega) ?_); intro t' tk'))
local macro_rules | `(tactic| walk_at "compareOp Gt ref ref") => `(tactic| (k_here; k_dflt (refine' gt_pair ?k1 ?k2 ?k3 ?k4 ?_; (case k1 => k_asm); (case k2 | k3 => k_mem); (case k4 => ktr_units); k_whole)))
local macro_rules | `(tactic| walk_at "compareOp NotEq ref ref") => `(tactic| (k_here; k_dflt (refine' ne_nil ?k1 ?k2 ?k3 ?k4 ?_; (case k1 => k_asm); (case k2 | k3 => k_mem); (case k4 => ktr_units); k_whole)))
local macro_rules | `(tactic| walk_at "compareOp Eq ref ref") => `(tactic| (k_here; k_dflt (refine' eq_nil ?k1 ?k2 ?k3 ?k4 ?_; (case k1 => k_asm); (case k2 | k3 => k_mem); (case k4 => ktr_units); k_whole)))
local macro_rules | `(tactic| k_mem) => `(tactic| (refine my_memL ?_; k_mem))
local macro_rules | `(tactic| k_mem) => `(tactic| (refine my_memS (by assumption) ?_; k_mem))
local macro_rules | `(tactic| walk_at "compareOp NotIn str ref") => `(tactic| (k_here; k_dflt (refine' notIn_ff (p := Str.ofString "input") (q := Str.ofString "i-o") ?ha ?hm ?_; (case ha => exact (by k_in : Frag.In _ _) _ _ (by k_is)); (case hm => assumption); k_whole)))
local macro_rules | `(tactic| walk_at "my enterD") => `(tactic| (refine' code_def ?k1 ?k2 ?k3 ?k4 ?k5 ?kA ?kF ?kK ?k6 ?k7 ?k8 ?k9 ?kB ?_ ?c2 ?c3 ?c4 ?c5; (case kA | kF => exact rfl); (case kK => assumption); walk_at "my ent"; (case c5 => decide); (case kB => exact locs rfl); (case c2 | c3 | c4 => exact rfl); k_whole; intro g' L' h' FG' F' N' B' X' T'; (try dsimp only); (try k_fold)))
local macro_rules | `(tactic| walk_at "call builtin:list.pop") => `(tactic| (k_here; (with_reducible show wpAny _ _ (call (Value.builtin _) [Value.ref _, Value.int _ _]) _ _ _); k_dflt (refine' pop_led ?F ?N ?U ?i ?z ?_; (case F | N => k_asm); (case U => k_updF); (case i => assumption); (case z => first | assumption | omega); k_whole); intro h' F' N'; (try dsimp only [List.nil_append, List.cons_append] at N'); (try k_sweep)))
local macro_rules | `(tactic| k_updF) => `(tactic| (with_reducible refine' updF_app ?a ?b; (case a => assumption); (case b => k_updF)))
local macro_rules | `(tactic| k_upd) => `(tactic| (with_reducible refine' upd_app ?a ?b; (case a => assumption); (case b => k_upd)))
local macro_rules | `(tactic| walk_at "compareOp NotIn bytes ref") => `(tactic| (k_here; k_dflt (refine' notIn_bys ?N ?m ?x ?_; (case N => k_asm); (case m => k_mem); (case x => assumption); k_whole)))
local macro_rules | `(tactic| walk_at "compareOp In bytes ref") => `(tactic| (k_here; k_dflt (refine' in_bys ?N ?m ?x ?_; (case N => k_asm); (case m => k_mem); (case x => assumption); k_whole)))
local macro_rules | `(tactic| walk_at "my forE") => `(tactic| (refine Stop.go ?_; (rename Fr _ _ _ _ => lF'); (with_unfolding_all refine' For_turns lF' ?_); (try k_fold); k_steps; refine Stop.go ?_))
theorem wdF1 : True := by
  k_with "my tidy" => ((try dsimp only); (try k_sweep); (try k_fold))
  k_with "exec For Name Call cons nil" => refine stop_ ?_
  k_with "exec For Name Name cons nil" => refine stop_ ?_
  k_with "exec For Name Subscript cons nil" => refine stop_ ?_
  k_with "exec For Tuple Call cons nil" => refine stop_ ?_
  k_with "pyIter ref" => refine stop_ ?_
  k_with "call builtin:sorted" => refine stop_ ?_
  k_with "eval ListComp" => refine stop_ ?_
  k_with "exec Assign cons ListComp" => refine stop_ ?_
  k_with "compareOp Eq bytes bytes" => refine eq_by ?_
  k_with "compareOp NotEq bytes bytes" => refine ne_by ?_
  k_with "compareOp Lt bytes bytes" => refine lt_by ?_
  k_with "compareOp LtE bytes bytes" => refine le_by ?_
  k_with "compareOp Gt bytes bytes" => refine gt_by ?_
  k_with "compareOp GtE bytes bytes" => refine ge_by ?_
  k_with "RoEnd" => refine RoEnd.ret ?_
  k_with "my in" => first | assumption | (refine List.mem_cons_of_mem _ ?_; walk_at "my in") | (refine List.mem_append_left _ ?_; walk_at "my in") | (refine List.mem_append_right _ ?_; walk_at "my in")
  k_with "my sub" => first | exact fun _ h9 => h9 | (intro p9 h9; walk_at "my in")
  k_with "my keys" => first | assumption | (refine keys_sub (by assumption) ?_; walk_at "my sub")
  k_with "my stamps" => first | assumption | (refine stamps_sub (by assumption) ?_; walk_at "my sub")
  k_with "CompSrcT" => refine stop_ ?_
  k_with "CompSrc" => refine stop_ ?_
  k_with "my assignT" => (refine Stop.go ?_; k_dflt (refine LCt.Assign_ListComp_T (F₀ := by k_asm) (by rfl) (by with_unfolding_all rfl) (by with_unfolding_all rfl) (by decide) (by rfl) (by decide) (by rfl) (by rfl) (by rfl) ?_); (try k_fold); k_steps; refine Stop.go ?_)
  k_with "my mem" => first | exact List.Mem.head _ | (refine List.Mem.tail _ ?_; walk_at "my mem") | (refine my_memL ?_; walk_at "my mem") | assumption
  k_with "my subs" => first | exact List.forall_mem_nil _ | (refine List.forall_mem_cons.mpr ⟨?_, ?_⟩; (focus walk_at "my mem"); walk_at "my subs") | walk_at "my sub"
  k_with "compareOp Eq str str" => first | refine eq_str_tt ?_ | refine eq_str_ff (by assumption) ?_
  k_with "RoEnd2" => refine RoEnd2.ret ?_
  k_with "my compU" => (refine Stop.go ?_; k_dflt (refine LCg.ListComp_U (F₀ := by k_asm) (by with_unfolding_all rfl) (by decide) (by rfl) (by decide) (by rfl) ?_); (try k_fold); k_steps; refine Stop.go ?_)
  k_with "my rangeU" => (refine LCg.CompSrc.range (by rfl) (by k_asm) (by k_asm) (by assumption) (by first | decide | exact small_one (by omega) (by omega) (by omega) (by omega)) (by first | exact rangeSize_nat _ _ | rfl) (by rw [sizeLine_eq]; omega) ?_)
  k_with "my in" => exact mem_sw (by assumption)
  k_with "RoEndP" => refine RoEndP.ret ?_
  k_with "MEnd" => refine MEnd.ret ?_
  k_with "my ledgerU" => (refine LCg.CompSrc.ledger (by rfl) (by k_asm) (by k_asm) (by k_mem) (by rw [sizeLine_eq, List.size_toArray]; omega) ?_)
  k_with "call type:enumerate" => refine stop_ ?_
  k_with "my enE" => (refine Stop.go ?_; k_dflt (refine en_ListComp (by with_unfolding_all rfl) (by rfl) (by decide) ?_); (try k_fold); k_steps; refine Stop.go ?_)
  k_with "my enA" => (refine Stop.go ?_; k_dflt (refine en_Assign (by with_unfolding_all rfl) (by with_unfolding_all rfl) (by rfl) (by decide) ?_); (try k_fold); k_steps; refine Stop.go ?_)
  trivial

theorem worth_c {w : World} {mean : ExcName → Option Value} {mg mb : Str → Option Value} {news : Led} {o dx c kl st at_ : Addr} {H : Nat → Int} {T : Nat → Tok} {md ac ns wh nw rl hi : Value} {nk : Nat} {vk : List Value} {ks : List (Int × Int × Bool)} {k : Int × Int × Bool} {r : By} {t t4 : Tok} {wi : Int}
    (ho : (o, instObj 208 dx) ∈ news) (hdx : (dx, kfd H T c md ac kl st ns wh at_ nw rl hi) ∈ news) (hkl : (kl, listOf vk.toArray nk) ∈ news) (hk : All2 (KeyIn news) vk ks) (hw0 : 0 ≤ wi) (hw1 : wi < 10) (hkw : ks[wi.toNat]? = some k) (hr : r.size < 10000) :
    Sp w mean mg mb 89 [.ref o, .bytes r t, .int wi t4] 5 50 news (fun x nw => ∃ t', x = .bytes (wor k r) t' ∧ nw = news) := by
  obtain ⟨v, hv, ka, t2, t3, kn, rfl, hka⟩ := hk.get hkw
  unfold Sp
  intro d u gd cn cs a ccd cl outer A₀ base h₀ L m s Q E B F X N T hck hd hu hret
  refine wpAny_call ?_
  k_dflt ktr_enter
  k_steps
  all_goals (refine hret _ _ _ _ (by k_asm) (by k_asm) ⟨_, rfl, rfl⟩)

local macro_rules | `(tactic| walk_at "call ref") => `(tactic| (k_here; (with_reducible show wpAny _ _ (call (Value.ref 89) _) _ _ _); (k_dflt (refine' Sp.use (worth_c ?a1 ?a2 ?a3 ?a4 ?a5 ?a6 ?a7 ?a8) ?k1 ?k2 ?k3 ?k4 ?k5 ?k6 ?k7 ?k8 ?_; walk_at "my use"; (case a1 | a2 | a3 => k_mem); (case a4 => walk_at "my keys"); (case a5 | a6 => omega); (case a7 => first | assumption | exact rfl); (case a8 => assumption))); intro r9 nw9 h' tk' F' N' hp9; obtain ⟨t', e9, e8⟩ := hp9; subst e9; (replace e8 := Eq.symm e8); subst e8; walk_at "my tidy"))

theorem place_of_c {w : World} {mean : ExcName → Option Value} {mg mb : Str → Option Value} {news : Led} {o dx c kl st at_ : Addr} {H : Nat → Int} {T : Nat → Tok} {md ac ns wh nw rl hi : Value} {nk nc : Nat} {vk vc : List Value} {ks : List (Int × Int × Bool)} {k : Int × Int × Bool} {r : By} {cs : List By} {t : Tok}
    (ho : (o, instObj 208 dx) ∈ news) (hdx : (dx, kfd H T c md ac kl st ns wh at_ nw rl hi) ∈ news) (hkl : (kl, listOf vk.toArray nk) ∈ news) (hk : All2 (KeyIn news) vk ks) (hkw : ks[0]? = some k)
    (hc : (c, listOf vc.toArray nc) ∈ news) (hcs : All2 IsB vc cs) (hlen : cs.length < 64) (hsz : ∀ b ∈ cs, b.size < 10000) :
    Sp w mean mg mb 103 [.ref o, .bytes r t] 10 100 news (fun x nw => nw = news ∧ ((∃ i t', x = .int (i : Nat) t' ∧ i < cs.length ∧ (cs[i]?).map (wor k) = some r ∧ ∀ j, j < i → (cs[j]?).map (wor k) ≠ some r) ∨ (∃ t', x = .int (-1) t' ∧ ∀ b ∈ cs, wor k b ≠ r))) := by
  unfold Sp
  intro d u gd cn cs' a ccd cl outer A₀ base h₀ L m s Q E B F X N TT hck hd hu hret
  refine wpAny_call ?_
  have hvl : vc.length < 10000 := by have := hcs.len; omega
  k_dflt ktr_enter
  k_steps
  walk_at "my for"
  refine range_ro (n := vc.length) (fun i => ∀ j, j < i → (cs[j]?).map (wor k) ≠ some r) rfl (by assumption) (by omega) (by assumption) (by assumption) (fun j hj => absurd hj (Nat.not_lt_zero _)) ?_ ?_
  · intro i t9 h9 tk9 nx hi hP hsub F9 N9
    have ho' := hsub _ ho
    have hdx' := hsub _ hdx
    have hkl' := hsub _ hkl
    have hc' := hsub _ hc
    have hk' : All2 (KeyIn nx) vk ks := hk.mono fun v k ⟨a, t1, t2, n, e, hm⟩ => ⟨a, t1, t2, n, e, hsub _ hm⟩
    have hi' : i < cs.length := by rw [← hcs.len]; exact hi
    obtain ⟨v, hv, tb, rfl⟩ := hcs.get (List.getElem?_eq_getElem hi')
    have hv' : vc[(i : Int).toNat]? = some (.bytes cs[i] tb) := by simpa using hv
    have hb : (cs[i]).size < 10000 := hsz _ (List.getElem_mem _)
    have hkw' : ks[(0 : Int).toNat]? = some k := hkw
    k_steps
    · refine hret _ _ _ _ (by k_asm) (newsSub (by k_asm) hsub) ⟨rfl, .inl ⟨i, _, rfl, hi', ?_, hP⟩⟩
      rw [List.getElem?_eq_getElem hi']
      exact congrArg some (by assumption)
    · refine RoEnd.next (by assumption) (by assumption) (fun j hj => ?_) (fun z hz => by simp [hz])
      by_cases e : j = i
      · subst e
        rw [List.getElem?_eq_getElem hi']
        intro q
        exact absurd (Option.some.inj q) (by assumption)
      · exact hP j (by omega)
  · intro v' h9 tk9 hP F9 N9
    k_steps
    refine hret _ _ _ _ (by k_asm) (by k_asm) ⟨rfl, .inr ⟨_, rfl, fun b hb e => ?_⟩⟩
    obtain ⟨j, hj, rfl⟩ := List.mem_iff_getElem.mp hb
    exact hP j (by rw [hcs.len]; exact hj) (by rw [List.getElem?_eq_getElem hj]; exact congrArg some e)

theorem wdF2 : True := by
  k_with "call ref" => (k_here; (with_reducible show wpAny _ _ (call (Value.ref 103) _) _ _ _); refine stop_ ?_)
  trivial

theorem stand_c {w : World} {mean : ExcName → Option Value} {mg mb : Str → Option Value} {rest : Led} {o dx c kl st at_ at2 : Addr} {H : Nat → Int} {T : Nat → Tok} {md ac ns wh nw rl hi wv : Value}
    (ho : (o, instObj 208 dx) ∈ rest) (hoff : ∀ p ∈ rest, p.1 ≠ dx) :
    Sp w mean mg mb 117 [.ref o, wv, .ref at2] 5 50 ((dx, kfd H T c md ac kl st ns wh at_ nw rl hi) :: rest) (fun x nw' => x = .none ∧ nw' = (dx, kfd H T c md ac kl st ns wv at2 (.bool false) rl hi) :: rest) := by
  unfold Sp
  intro d u gd cn cs' a ccd cl outer A₀ base h₀ L m s Q E B F X N TT hck hd hu hret
  refine wpAny_call ?_
  k_dflt ktr_enter
  k_steps
  all_goals (refine hret _ _ _ _ (by k_asm) (by k_asm) ⟨rfl, rfl⟩)
theorem stand_u {w : World} {mean : ExcName → Option Value} {mg mb : Str → Option Value} {news : Led} {o dx c kl st at_ at2 : Addr} {H : Nat → Int} {T : Nat → Tok} {md ac ns wh nw rl hi wv : Value} {g : Obj → Led}
    (U : UpdF dx (kfd H T c md ac kl st ns wh at_ nw rl hi) news g) (ho : (o, instObj 208 dx) ∈ news) (hne : o ≠ dx) :
    Sp w mean mg mb 117 [.ref o, wv, .ref at2] 5 50 news (fun x nw' => x = .none ∧ nw' = g (kfd H T c md ac kl st ns wv at2 (.bool false) rl hi)) :=
  Sp.mono (Sp.upd U (P := fun x e D' => x = .none ∧ e = [] ∧ D' = kfd H T c md ac kl st ns wv at2 (.bool false) rl hi) fun rest h1 h2 => Sp.mono (stand_c (h2 _ ho hne) h1) fun r nw ⟨e1, e2⟩ => ⟨nw, ⟨[], _, e2, Fresh.nil, e1, rfl, rfl⟩, fun _ h => h⟩)
    fun r nw ⟨extra, D', e, fr, e1, e2, e3⟩ => ⟨nw, ⟨e1, by rw [e, e2, e3]; rfl⟩, fun _ h => h⟩

local macro_rules | `(tactic| walk_at "call ref") => `(tactic| (k_here; (with_reducible show wpAny _ _ (call (Value.ref 117) _) _ _ _); (k_dflt (refine' Sp.use (stand_u ?a1 ?a2 ?a3) ?k1 ?k2 ?k3 ?k4 ?k5 ?k6 ?k7 ?k8 ?_; walk_at "my use"; (case a2 => k_mem); (case a1 => k_updF); (case a3 => first | assumption | k_ne))); intro r9 nw9 h' tk' F' N' hp9; obtain ⟨e9, e8⟩ := hp9; subst e9; subst e8; (try dsimp only at N'); walk_at "my tidy"))

theorem lose_c {w : World} {mean : ExcName → Option Value} {mg mb : Str → Option Value} {rest : Led} {o dx c kl st at_ : Addr} {H : Nat → Int} {T : Nat → Tok} {md ac ns wh nw rl hi sv : Value}
    (ho : (o, instObj 208 dx) ∈ rest) (hoff : ∀ p ∈ rest, p.1 ≠ dx) :
    Sp w mean mg mb 124 [.ref o, sv] 5 50 ((dx, kfd H T c md ac kl st ns wh at_ nw rl hi) :: rest) (fun x nw' => ∃ a k t t2, x = .ref a ∧ nw' = (a, tupOf #[sv, .bytes #[] t] k) :: (dx, kfd H T c md ac kl st ns wh at_ (.bool true) (.int (-1) t2) hi) :: rest ∧ a ≠ dx ∧ ∀ p ∈ rest, p.1 ≠ a) := by
  unfold Sp
  intro d u gd cn cs' a ccd cl outer A₀ base h₀ L m s Q E B F X N TT hck hd hu hret
  refine wpAny_call ?_
  k_dflt ktr_enter
  k_steps
  refine hret _ _ _ _ (by k_asm) (by k_asm) ⟨_, _, _, _, rfl, rfl, ?_, ?_⟩
  · k_ne
  · exact off_and (by assumption)
theorem lose_u {w : World} {mean : ExcName → Option Value} {mg mb : Str → Option Value} {news : Led} {o dx c kl st at_ : Addr} {H : Nat → Int} {T : Nat → Tok} {md ac ns wh nw rl hi sv : Value} {g : Obj → Led}
    (U : UpdF dx (kfd H T c md ac kl st ns wh at_ nw rl hi) news g) (ho : (o, instObj 208 dx) ∈ news) (hne : o ≠ dx) :
    Sp w mean mg mb 124 [.ref o, sv] 5 50 news (fun x nw' => ∃ a k t t2, x = .ref a ∧ nw' = (a, tupOf #[sv, .bytes #[] t] k) :: g (kfd H T c md ac kl st ns wh at_ (.bool true) (.int (-1) t2) hi) ∧ ∀ p ∈ news, p.1 ≠ a) :=
  Sp.mono (Sp.upd U (P := fun x e D' => ∃ a k t t2, x = .ref a ∧ e = [(a, tupOf #[sv, .bytes #[] t] k)] ∧ D' = kfd H T c md ac kl st ns wh at_ (.bool true) (.int (-1) t2) hi) fun rest h1 h2 =>
      Sp.mono (lose_c (h2 _ ho hne) h1) fun r nw ⟨a, k, t, t2, e1, e2, e3, e4⟩ => ⟨nw, ⟨[(a, tupOf #[sv, .bytes #[] t] k)], _, e2, fun e he p hp => by
        rw [List.mem_singleton.mp he]
        rcases List.mem_cons.mp hp with rfl | hp
        · exact Ne.symm e3
        · exact e4 p hp, a, k, t, t2, e1, rfl, rfl⟩, fun _ h => h⟩)
    fun r nw ⟨extra, D', e, fr, a, k, t, t2, e1, e2, e3⟩ => ⟨nw, ⟨a, k, t, t2, e1, by rw [e, e2, e3]; rfl, fun p hp => fr (a, tupOf #[sv, .bytes #[] t] k) (by rw [e2]; exact List.mem_cons_self) p hp⟩, fun _ h => h⟩

local macro_rules | `(tactic| walk_at "call ref") => `(tactic| (k_here; (with_reducible show wpAny _ _ (call (Value.ref 124) _) _ _ _); (k_dflt (refine' Sp.use (lose_u ?a1 ?a2 ?a3) ?k1 ?k2 ?k3 ?k4 ?k5 ?k6 ?k7 ?k8 ?_; walk_at "my use"; (case a2 => k_mem); (case a1 => k_updF); (case a3 => first | assumption | k_ne))); intro r9 nw9 h' tk' F' N' hp9; obtain ⟨a', k', t', t2', e9, e8, hoA'⟩ := hp9; subst e9; subst e8; (try dsimp only at N'); walk_at "my tidy"))

theorem ordered_c {w : World} {mean : ExcName → Option Value} {mg mb : Str → Option Value} {news : Led} {o dx c kl st at_ : Addr} {H : Nat → Int} {T : Nat → Tok} {md ac ns wh nw rl hi : Value} {nk nc nst : Nat} {vk vc vst : List Value} {ks : List (Int × Int × Bool)} {k : Int × Int × Bool} {cs : List By} {S : List Int} {wi : Int} {t4 : Tok}
    (ho : (o, instObj 208 dx) ∈ news) (hdx : (dx, kfd H T c md ac kl st ns wh at_ nw rl hi) ∈ news) (hkl : (kl, listOf vk.toArray nk) ∈ news) (hk : All2 (KeyIn news) vk ks) (hw0 : 0 ≤ wi) (hw1 : wi < 10) (hkw : ks[wi.toNat]? = some k)
    (hc : (c, listOf vc.toArray nc) ∈ news) (hcs : All2 IsB vc cs) (hst : (st, listOf vst.toArray nst) ∈ news) (hS : All2 (StIn ks.length news) vst S) (hSl : S.length = cs.length) (hSn : S.Nodup) (hlen : cs.length < 64) (hsz : ∀ b ∈ cs, b.size < 10000) :
    Sp w mean mg mb 96 [.ref o, .int wi t4] 10 100 news (fun x nw' => ∃ D c' p vs tl, x = .ref D ∧ nw' = (D, listOf (vs : List Value).toArray c') :: (news ++ tl) ∧ p.Perm (List.range cs.length) ∧ (p.map (kkey k cs S)).Pairwise (fun a b => rowLt a b = true) ∧
      All2 (ORow tl (kkey k cs S)) vs p ∧ (∀ q ∈ tl, q.2.cls = .type "tuple") ∧ (∀ q ∈ news ++ tl, q.1 ≠ D) ∧ vs.length = cs.length) := by
  unfold Sp
  intro d u gd cn cs' a ccd cl outer A₀ base h₀ L m s Q E B F X N TT hck hd hu hret
  refine wpAny_call ?_
  have hvl : vc.length < 10000 := by have := hcs.len; omega
  k_dflt ktr_enter
  k_steps
  walk_at "my for"
  refine range_build (n := vc.length) (c₀ := 0) (news := news) (fun l v i => ORow l (kkey k cs S) v i) (fun l l' v i h hs => h.mono hs) rfl (by assumption) (by omega) (by assumption) (by assumption) (off_all (by assumption)) ?_ ?_
  · intro i t9 h9 tk9 vs cN rest hi hvs hsub hoff F9 N9
    have ho' := hsub _ ho
    have hdx' := hsub _ hdx
    have hkl' := hsub _ hkl
    have hc' := hsub _ hc
    have hst' := hsub _ hst
    have hk' : All2 (KeyIn rest) vk ks := hk.mono fun v k h => h.mono hsub
    have hi' : i < cs.length := by rw [← hcs.len]; exact hi
    obtain ⟨v, hv, tb, rfl⟩ := hcs.get (List.getElem?_eq_getElem hi')
    have hv' : vc[(i : Int).toNat]? = some (.bytes cs[i] tb) := by simpa using hv
    have hb : (cs[i]).size < 10000 := hsz _ (List.getElem_mem _)
    have hiS : i < S.length := by rw [hSl]; exact hi'
    obtain ⟨v2, hv2, sa, us, sn, rfl, hsa, hul, hus⟩ := hS.get (List.getElem?_eq_getElem hiS)
    have hsa' := hsub _ hsa
    have hv2' : vst[(i : Int).toNat]? = some (.ref sa) := by simpa using hv2
    have hwu : wi.toNat < us.length := by rw [hul]; exact (List.getElem?_eq_some_iff.mp hkw).1
    obtain ⟨tu, hu3⟩ := hus _ (List.getElem_mem hwu)
    have hu' : us[wi.toNat]? = some (.int S[i] tu) := by rw [List.getElem?_eq_getElem hwu, hu3]
    k_steps
    have ek : kkey k cs S i = (wor k cs[i], S[i]) := by simp [kkey, hi', hiS]
    refine BuildEnd.next (by assumption) (by (rename News _ _ _ _ => nE); (simp only [List.push_toArray] at nE); exact nE) (fun z hz => by simp [hz]) ?_ rfl ?_ ?_
    · unfold ORow
      rw [ek]
      exact ⟨_, _, _, _, _, rfl, List.Mem.head _⟩
    · k_ne
    · exact off_and (by assumption)
  · intro v' h9 tk9 vs cN tl hA ht hf F9 N9
    k_steps
    refine Stop.go ?_
    refine sorted_rows (vs := vs) (ks := (List.range cs.length).map (kkey k cs S)) (by assumption) (by assumption) ⟨_, (N9 _ (List.Mem.head _)).1, rfl, _, rfl⟩ ?_ ?_ ?_ ?_
    · rw [← hcs.len]
      exact hA.map_right fun v i h => h.row.mono fun p hp => List.mem_cons_of_mem _ (List.mem_append_left _ hp)
    · rw [kkey_snd hSl]; exact hSn
    · simpa using hlen
    · intro D c' h8 p F8 N8 hl8 hp hpw
      rw [List.length_map, List.length_range] at hp
      rw [kkey_pick hp] at hpw
      k_steps
      have hpk := hA.pick (dv := Value.none) (dk := 0) (p := p) (fun i hi => by rw [List.length_range, hcs.len]; exact lt_of_pick hp i hi)
      rw [hcs.len, range_pick hp] at hpk
      refine hret _ ((D, listOf (p.map fun i => vs.getD i Value.none).toArray c') :: (news ++ tl)) _ _ (by k_asm) (newsSub (by k_asm) fun q hq => ?_) ⟨D, c', p, _, tl, rfl, rfl, hp, hpw, hpk, ht, fun q hq => Nat.ne_of_lt (hl8 q (List.mem_cons_of_mem _ (app_swap q hq))), by rw [hpk.len, hp.length_eq, List.length_range]⟩
      rcases List.mem_cons.mp hq with rfl | hq
      · exact List.Mem.head _
      · exact List.mem_cons_of_mem _ (List.mem_cons_of_mem _ (app_swap q hq))

local macro_rules | `(tactic| walk_at "call ref") => `(tactic| (k_here; (with_reducible show wpAny _ _ (call (Value.ref 96) _) _ _ _); (k_dflt (refine' Sp.use (ordered_c ?a1 ?a2 ?a3 ?a4 ?a5 ?a6 ?a7 ?a8 ?a9 ?b1 ?b2 ?b3 ?b4 ?b5 ?b6) ?k1 ?k2 ?k3 ?k4 ?k5 ?k6 ?k7 ?k8 ?_; walk_at "my use"; (case a1 | a2 | a3 => k_mem); (case a4 => walk_at "my keys"); (case a5 | a6 => omega); (case a7 => first | assumption | exact rfl); (case a8 => k_mem); (case a9 => assumption); (case b1 => k_mem); (case b2 => walk_at "my stamps"); (case b3 | b4 | b5 | b6 => assumption))); intro r9 nw9 h' tk' F' N' hp9; obtain ⟨D', c', p', vs', tl', e9, e8, hp', hpw', hA', htl', hoD', hvl'⟩ := hp9; subst e9; subst e8; (try simp only [List.cons_append] at N'); walk_at "my tidy"))

theorem found_c {w : World} {mean : ExcName → Option Value} {mg mb : Str → Option Value} {rest : Led} {o dx c kl st at_ rt : Addr} {H : Nat → Int} {T : Nat → Tok} {md ac ns wh nw rl hi : Value} {nk nc nst rn : Nat} {vk vc vst : List Value} {ks : List (Int × Int × Bool)} {k : Int × Int × Bool} {cs : List By} {S : List Int} {wi : Int} {t4 r1 r2 r3 : Tok} {i : Nat}
    (ho : (o, instObj 208 dx) ∈ rest) (hoff : ∀ p ∈ rest, p.1 ≠ dx) (hkl : (kl, listOf vk.toArray nk) ∈ rest) (hk : All2 (KeyIn rest) vk ks) (hw0 : 0 ≤ wi) (hw1 : wi < 10) (hkw : ks[wi.toNat]? = some k)
    (hc : (c, listOf vc.toArray nc) ∈ rest) (hcs : All2 IsB vc cs) (hst : (st, listOf vst.toArray nst) ∈ rest) (hS : All2 (StIn ks.length rest) vst S) (hSl : S.length = cs.length) (hSn : S.Nodup) (hlen : cs.length < 64) (hsz : ∀ b ∈ cs, b.size < 10000)
    (hi' : i < cs.length) (hrt : (rt, tupOf #[.bytes (kkey k cs S i).1 r1, .int (kkey k cs S i).2 r2, .int (i : Int) r3] rn) ∈ rest) :
    Sp w mean mg mb 129 [.ref o, .ref rt, .int wi t4] 20 200 ((dx, kfd H T c md ac kl st ns wh at_ nw rl hi) :: rest) (fun x nw' => ∃ a n ata n2 t1 t2 t3 t5 t6, x = .ref a ∧ nw' = (a, tupOf #[.str (fstat k cs S wi i) t1, .bytes (cs.getD i #[]) t2] n) :: (dx, kfd H T c md ac kl st ns (.int wi t4) ata (.bool false) (.int (S.getD i 0) t6) hi) :: (ata, tupOf #[.bytes (fat k cs S wi i).1 t3, .int (fat k cs S wi i).2 t5] n2) :: rest ∧
      a ≠ dx ∧ ata ≠ dx ∧ a ≠ ata ∧ (∀ p ∈ rest, p.1 ≠ a) ∧ ∀ p ∈ rest, p.1 ≠ ata) := by
  have hvl : vc.length < 10000 := by have := hcs.len; omega
  have hne : o ≠ dx := hoff _ ho
  have hWz : (kkey k cs S i).1.size < 100000 := by
    have h1 := wor_size k (cs.getD i #[])
    have h2 : (cs.getD i #[]).size < 10000 := by
      have : cs.getD i #[] = cs[i] := by simp [hi']
      rw [this]; exact hsz _ (List.getElem_mem _)
    show (wor k (cs.getD i #[])).size < 100000
    omega
  obtain ⟨v1, hv1, tb, rfl⟩ := hcs.get (List.getElem?_eq_getElem hi')
  have hv1' : vc[(i : Int).toNat]? = some (.bytes cs[i] tb) := by simpa using hv1
  have hiS : i < S.length := by rw [hSl]; exact hi'
  obtain ⟨v2, hv2, sa, us, sn, rfl, hsa, hul, hus⟩ := hS.get (List.getElem?_eq_getElem hiS)
  have hv2' : vst[(i : Int).toNat]? = some (.ref sa) := by simpa using hv2
  have hwu : 0 < us.length := by rw [hul]; have := (List.getElem?_eq_some_iff.mp hkw).1; omega
  obtain ⟨tu, hu3⟩ := hus _ (List.getElem_mem hwu)
  have hu' : us[(0 : Int).toNat]? = some (.int S[i] tu) := by show us[0]? = _; rw [List.getElem?_eq_getElem hwu, hu3]
  have hcd : cs.getD i #[] = cs[i] := by simp [hi']
  have hSd : S.getD i 0 = S[i] := by simp [hiS]
  unfold Sp
  intro d u gd cn cs' a ccd cl outer A₀ base h₀ L m s Q E B F X N TT hck hd hu hret
  refine wpAny_call ?_
  k_dflt (walk_at "my enterC")
  k_steps
  all_goals walk_at "my assignT"
  all_goals
    refine LCt.CompSrcT.ledger (by rfl) (by k_asm) (by k_asm) (by k_mem) (by rw [sizeLine_eq, List.size_toArray]; omega) ?_
    intro g9
    refine compT_filter (R := fun l v j => ORow l (kkey k cs S) v j) (fun l l' v j h hs => h.mono hs) (by assumption) (by walk_at "my sub") (isLater k cs S i) (srcAt_led (by k_mem)) ?_ ?_
    rotate_left
    · intro i9 j9 v9 nx C9 oC9 m9 h9 tk9 E9 hj hrow hC hx hmC hsub F9 N9
      obtain ⟨ra, rt1, rt2, rt3, rn9, rfl, hrm⟩ := hrow
      k_steps
      · refine ⟨_, _, rfl, by assumption, by assumption, fun _ => ⟨and_tt (by assumption) (by assumption), ?_⟩, fun e => absurd e (by decide)⟩
        k_steps
        exact ⟨_, _, rfl, by assumption, by assumption, rfl⟩
      · exact ⟨_, _, rfl, by assumption, by assumption, fun e => absurd e (by decide), fun _ => and_ff2 (by assumption)⟩
      · exact ⟨_, _, rfl, by assumption, by assumption, fun e => absurd e (by decide), fun _ => and_ff1 (by assumption)⟩
    · intro ys hys D9 h9 tk9 F9 N9 o9
      have hlat := later_of hys (by assumption)
      k_steps
      all_goals
        first | simp only [hcd, hSd, fst_02 (by assumption) hlat (by assumption), fat_1 (by assumption)] at hret | simp only [hcd, hSd, fst_00 hlat (by assumption), fat_1 (by assumption)] at hret | simp only [hcd, hSd, fst_0 (by assumption), fat_0 (by assumption)] at hret
        refine' hret _ _ _ _ ?F ?N ⟨_, _, _, _, _, _, _, _, _, rfl, rfl, ?a1, ?a2, ?a3, ?a4, ?a5⟩
        (case F => k_asm)
        (case N => (refine newsSub (by k_asm) ?_; walk_at "my subs"))
        (case a1 => k_ne)
        (case a2 => k_ne)
        (case a3 => k_ne)
        (case a4 => k_all)
        (case a5 => k_all)

theorem wdF3 : True := by
  k_with "call ref" => (k_here; (with_reducible show wpAny _ _ (call (Value.ref 129) _) _ _ _); refine stop_ ?_)
  trivial

theorem read_next_c {w : World} {mean : ExcName → Option Value} {mg mb : Str → Option Value} {rest : Led} {o dx c kl st at_ : Addr} {H : Nat → Int} {T : Nat → Tok} {md ac : Str} {tm tac : Tok} {ns rl hi : Value} {nk nc nst an : Nat} {vk vc vst : List Value} {ks : List (Int × Int × Bool)} {k : Int × Int × Bool} {cs : List By} {S : List Int} {wi : Int} {t4 at1 at2 : Tok} {pos : By × Int} {nwb : Bool}
    (ho : (o, instObj 208 dx) ∈ rest) (hoff : ∀ p ∈ rest, p.1 ≠ dx) (hkl : (kl, listOf vk.toArray nk) ∈ rest) (hk : All2 (KeyIn rest) vk ks) (hw0 : 0 ≤ wi) (hw1 : wi < 10) (hkw : ks[wi.toNat]? = some k)
    (hc : (c, listOf vc.toArray nc) ∈ rest) (hcs : All2 IsB vc cs) (hst : (st, listOf vst.toArray nst) ∈ rest) (hS : All2 (StIn ks.length rest) vst S) (hSl : S.length = cs.length) (hSn : S.Nodup) (hlen : cs.length < 64) (hsz : ∀ b ∈ cs, b.size < 10000)
    (hat : (at_, tupOf #[.bytes pos.1 at1, .int pos.2 at2] an) ∈ rest) (hmd : (decide (Str.ofString "input" = md) || decide (Str.ofString "i-o" = md)) = true) (hac : ac ≠ Str.ofString "random") :
    Sp w mean mg mb 136 [.ref o] 30 300 ((dx, kfd H T c (.str md tm) (.str ac tac) kl st ns (.int wi t4) at_ (.bool nwb) rl hi) :: rest) (fun x nw' =>
      (nwb = true ∧ ∃ a n t1 t2 t3, x = .ref a ∧ nw' = (a, tupOf #[.str (Str.ofString "46") t1, .bytes #[] t2] n) :: (dx, kfd H T c (.str md tm) (.str ac tac) kl st ns (.int wi t4) at_ (.bool true) (.int (-1) t3) hi) :: rest ∧ a ≠ dx ∧ ∀ p ∈ rest, p.1 ≠ a) ∨
      (nwb = false ∧ (∀ j, j < cs.length → rowLt pos (kkey k cs S j) = false) ∧ ∃ a n t1 t2 t3, x = .ref a ∧ nw' = (a, tupOf #[.str (Str.ofString "10") t1, .bytes #[] t2] n) :: (dx, kfd H T c (.str md tm) (.str ac tac) kl st ns (.int wi t4) at_ (.bool true) (.int (-1) t3) hi) :: rest ∧ a ≠ dx ∧ ∀ p ∈ rest, p.1 ≠ a) ∨
      (nwb = false ∧ ∃ i, Nxt k cs S pos i ∧ ∃ a n ata2 n2 t1 t2 t3 t5 t6, x = .ref a ∧ nw' = (a, tupOf #[.str (fstat k cs S wi i) t1, .bytes (cs.getD i #[]) t2] n) :: (dx, kfd H T c (.str md tm) (.str ac tac) kl st ns (.int wi t4) ata2 (.bool false) (.int (S.getD i 0) t6) hi) :: (ata2, tupOf #[.bytes (fat k cs S wi i).1 t3, .int (fat k cs S wi i).2 t5] n2) :: rest ∧
      a ≠ dx ∧ ata2 ≠ dx ∧ a ≠ ata2 ∧ (∀ p ∈ rest, p.1 ≠ a) ∧ ∀ p ∈ rest, p.1 ≠ ata2)) := by
  unfold Sp
  intro d u gd cn cs' a ccd cl outer A₀ base h₀ L m s Q E B F X N TT hck hd hu hret
  refine wpAny_call ?_
  have hne : o ≠ dx := hoff _ ho
  k_dflt ktr_enter
  cases nwb
  · k_steps
    walk_at "my for"
    refine list_search (R := fun l v j => ORow l (kkey k cs S) v j) rfl (by assumption) (by assumption) (by k_mem) (fun l l' v j h hs => h.mono hs) (by assumption) (by walk_at "my sub") (fun j => rowLt pos (kkey k cs S j)) ?_ ?_
    · intro i9 a9 v9 h9 tk9 nx hj hbef hrow hsub F9 N9
      obtain ⟨ra, rt1, rt2, rt3, rn9, rfl, hrm⟩ := hrow
      have hdx9 : (dx, kfd H T c (.str md tm) (.str ac tac) kl st ns (.int wi t4) at_ (.bool false) rl hi) ∈ nx := hsub _ (by k_mem)
      have hsub9 : ∀ p ∈ rest, p ∈ nx := fun p hp => hsub p (by walk_at "my in")
      have hrd : ra ≠ dx := ne_cls N9 hrm hdx9 tup_dict
      have hleast := least_of (by assumption) (by assumption) hj hbef
      have hcn : (a9 : Nat) < cs.length := hleast.1
      k_steps
      · refine Stop.go ?_
        refine Sp.use (Sp.sub (found_c (rest := (ra, _) :: rest) (H := H) (T := T) (md := .str md tm) (ac := .str ac tac) (ns := ns) (wh := .int wi t4) (at_ := at_) (nw := .bool false) (rl := rl) (hi := hi) (r1 := rt1) (r2 := rt2) (r3 := rt3) (rn := rn9) (List.mem_cons_of_mem _ ho) (List.forall_mem_cons.mpr ⟨hrd, hoff⟩) (List.mem_cons_of_mem _ hkl) (keys_cons hk) hw0 hw1 hkw (List.mem_cons_of_mem _ hc) hcs (List.mem_cons_of_mem _ hst) (stamps_cons hS) hSl hSn hlen hsz hcn List.mem_cons_self) ?hs) (by k_asm) (by k_asm) (by k_asm) (by k_asm) (by k_asm) (by first | exact rfl | assumption) (by ktr_room) (by ktr_units) ?_
        · exact List.forall_mem_cons.mpr ⟨List.mem_cons_of_mem _ hdx9, List.forall_mem_cons.mpr ⟨List.mem_cons_of_mem _ hrm, fun p hp => List.mem_cons_of_mem _ (hsub9 p hp)⟩⟩
        · rintro r8 nw8 h8 tk8 F8 N8 ⟨a, n, ata2, n2, t1, t2, t3, t5, t6, rfl, rfl, f1, f2, f3, f4, f5⟩
          try k_sweep
          k_steps
          refine' hret _ _ _ _ ?F ?N (.inr (.inr ⟨rfl, a9, ⟨hcn, by assumption, hleast.2⟩, a, n, ata2, n2, t1, t2, t3, t5, t6, rfl, rfl, f1, f2, f3, tail_all f4, tail_all f5⟩))
          (case F => k_asm)
          (case N => exact newsSub (by k_asm) (by walk_at "my subs"))
      · exact RoEnd.next (by assumption) (newsSub (by k_asm) (by walk_at "my sub")) (by simpa using (by assumption)) (fun z hz => by simp [hz])
    · intro v' h9 tk9 hP F9 N9
      k_steps
      refine Sp.use (Sp.sub (lose_c (H := H) (T := T) (c := c) (kl := kl) (st := st) (at_ := at_) (md := .str md tm) (ac := .str ac tac) (ns := ns) (wh := .int wi t4) (nw := .bool false) (rl := rl) (hi := hi) ho hoff) ?hsb) (by k_asm) (by k_asm) (by k_asm) (by k_asm) (by k_asm) (by first | exact rfl | assumption) (by ktr_room) (by ktr_units) ?_
      · walk_at "my subs"
      · rintro r8 nw8 h8 tk8 F8 N8 ⟨a, n, t1, t2, rfl, rfl, f1, f4⟩
        try k_sweep
        k_steps
        refine' hret _ _ _ _ ?F ?N (.inr (.inl ⟨rfl, ?P, a, n, _, _, _, rfl, rfl, f1, f4⟩))
        (case F => k_asm)
        (case N => k_asm)
        · exact fun j hj => hP _ ((List.Perm.mem_iff (by assumption)).mpr (List.mem_range.mpr hj))
  · k_steps
    refine' hret _ _ _ _ ?F ?N (.inl ⟨rfl, _, _, _, _, _, rfl, rfl, ?a1, ?a4⟩)
    (case F => k_asm)
    (case N => k_asm)
    (case a1 => k_ne)
    (case a4 => k_all)

theorem wdF4 : True := by
  k_with "call ref" => (k_here; (with_reducible show wpAny _ _ (call (Value.ref 136) _) _ _ _); refine stop_ ?_)
  trivial

/-- as much of a worth as the key tells -/
def pre (key b : By) : By := KBy.picked b none (some (key.size : Int))
def sat (op : Str) (key b : By) : Bool := (!decide (op = Str.ofString ">") && decide (pre key b = key)) || (!decide (op = Str.ofString "=") && blt key (pre key b))
section
variable {op : Str} {key b : By}
theorem sat_1 (h1 : (op != Str.ofString ">") = true) (h2 : KBy.picked b none (some (key.size : Int)) = key) : sat op key b = true := by
  unfold sat pre
  rw [decide_eq_true h2, decide_eq_false (bne_iff_ne.mp h1)]
  rfl
theorem sat_2 (h1 : (op != Str.ofString "=") = true) (h2 : blt key (KBy.picked b none (some (key.size : Int))) = true) : sat op key b = true := by
  unfold sat pre
  rw [h2, decide_eq_false (bne_iff_ne.mp h1)]
  simp
theorem sat_f (h1 : (op != Str.ofString ">") = false ∨ ¬ KBy.picked b none (some (key.size : Int)) = key) (h2 : (op != Str.ofString "=") = false ∨ blt key (KBy.picked b none (some (key.size : Int))) = false) : sat op key b = false := by
  have e (x : Str) (h : (op != x) = false) : op = x := by simpa using h
  unfold sat pre
  rcases h1 with h1 | h1 <;> rcases h2 with h2 | h2
  · rw [decide_eq_true (e _ h1), decide_eq_true (e _ h2)]; rfl
  · rw [decide_eq_true (e _ h1), h2]; simp
  · rw [decide_eq_false h1, decide_eq_true (e _ h2)]; simp
  · rw [decide_eq_false h1, h2]; simp
end
theorem start_c {w : World} {mean : ExcName → Option Value} {mg mb : Str → Option Value} {rest : Led} {o dx c kl st at_ : Addr} {H : Nat → Int} {T : Nat → Tok} {md ac op : Str} {tm tac to : Tok} {ns wh nw rl hi : Value} {nk nc nst : Nat} {vk vc vst : List Value} {ks : List (Int × Int × Bool)} {k : Int × Int × Bool} {cs : List By} {S : List Int} {wi : Int} {t4 tk0 : Tok} {key : By}
    (ho : (o, instObj 208 dx) ∈ rest) (hoff : ∀ p ∈ rest, p.1 ≠ dx) (hkl : (kl, listOf vk.toArray nk) ∈ rest) (hk : All2 (KeyIn rest) vk ks) (hw0 : 0 ≤ wi) (hw1 : wi < 10) (hkw : ks[wi.toNat]? = some k)
    (hc : (c, listOf vc.toArray nc) ∈ rest) (hcs : All2 IsB vc cs) (hst : (st, listOf vst.toArray nst) ∈ rest) (hS : All2 (StIn ks.length rest) vst S) (hSl : S.length = cs.length) (hSn : S.Nodup) (hlen : cs.length < 64) (hsz : ∀ b ∈ cs, b.size < 10000)
    (hmd : (decide (Str.ofString "input" = md) || decide (Str.ofString "i-o" = md)) = true) (hac : ac ≠ Str.ofString "random") (hop : op = Str.ofString "=" ∨ op = Str.ofString ">" ∨ op = Str.ofString ">=") (hkey : key.size < 10000) :
    Sp w mean mg mb 152 [.ref o, .str op to, .bytes key tk0, .int wi t4] 30 300 ((dx, kfd H T c (.str md tm) (.str ac tac) kl st ns wh at_ nw rl hi) :: rest) (fun x nw' =>
      (∃ i, i < cs.length ∧ sat op key (kkey k cs S i).1 = true ∧ (∀ j, j < cs.length → sat op key (kkey k cs S j).1 = true → j = i ∨ rowLt (kkey k cs S i) (kkey k cs S j) = true) ∧
        ∃ ata n t1 t3 t5 t6, x = .str (Str.ofString "00") t1 ∧ nw' = (dx, kfd H T c (.str md tm) (.str ac tac) kl st ns (.int wi t4) ata (.bool false) (.int (-1) t6) hi) :: (ata, tupOf #[.bytes (kkey k cs S i).1 t3, .int ((kkey k cs S i).2 - 1) t5] n) :: rest ∧ ata ≠ dx ∧ ∀ p ∈ rest, p.1 ≠ ata) ∨
      ((∀ j, j < cs.length → sat op key (kkey k cs S j).1 = false) ∧ ∃ t1 t6, x = .str (Str.ofString "23") t1 ∧ nw' = (dx, kfd H T c (.str md tm) (.str ac tac) kl st ns wh at_ (.bool true) (.int (-1) t6) hi) :: rest)) := by
  have hWz : ∀ i, i < cs.length → (kkey k cs S i).1.size < 10000 := fun i hi' => by
    have h1 := wor_size k (cs.getD i #[])
    have h2 : (cs.getD i #[]).size < 10000 := by
      have : cs.getD i #[] = cs[i] := by simp [hi']
      rw [this]; exact hsz _ (List.getElem_mem _)
    show (wor k (cs.getD i #[])).size < 10000
    omega
  unfold Sp
  intro d u gd cn cs' a ccd cl outer A₀ base h₀ L m s Q E B F X N TT hck hd hu hret
  refine wpAny_call ?_
  have hne : o ≠ dx := hoff _ ho
  k_dflt (walk_at "my enterD")
  k_steps
  walk_at "my for"
  refine list_search2 (R := fun l v j => ORow l (kkey k cs S) v j) (Str.ofString "part") rfl (by assumption) (by assumption) (by k_mem) (fun l l' v j h hs => h.mono hs) (by assumption) (by walk_at "my sub") (fun j => sat op key (kkey k cs S j).1) ?_ ?_
  · intro i9 a9 v9 h9 tk9 nx py9 hj hbef hrow hsub F9 N9
    obtain ⟨ra, rt1, rt2, rt3, rn9, rfl, hrm⟩ := hrow
    have hdx9 := hsub _ (List.mem_cons_of_mem _ List.mem_cons_self)
    have hsub9 : ∀ p ∈ rest, p ∈ nx := fun p hp => hsub p (by walk_at "my in")
    have hrd : ra ≠ dx := ne_cls N9 hrm hdx9 tup_dict
    have hleast := least_of (by assumption) (by assumption) hj hbef
    have hcn : (a9 : Nat) < cs.length := hleast.1
    have hz9 := hWz _ hcn
    k_steps
    all_goals first
      | exact RoEnd2.next (by assumption) (newsSub (by k_asm) (by walk_at "my sub")) (sat_f (by first | exact .inl (by assumption) | exact .inr (by assumption)) (by first | exact .inl (by assumption) | exact .inr (by assumption))) (fun z hz hz2 => by simp [hz, hz2])
      | skip
    all_goals
      (have hsat : sat op key (kkey k cs S a9).1 = true := by first | exact sat_1 (by assumption) (by assumption) | exact sat_2 (by assumption) (by assumption))
      (rename ∀ p ∈ nx, p.1 < _ => l1)
      (refine' Sp.use (Sp.sub (stand_c (H := H) (T := T) (c := c) (kl := kl) (st := st) (at_ := at_) (md := .str md tm) (ac := .str ac tac) (ns := ns) (wh := wh) (nw := nw) (rl := .int (-1) _) (hi := hi) (rest := _ :: rest) (List.mem_cons_of_mem _ ho) (List.forall_mem_cons.mpr ⟨?hq, hoff⟩)) (List.forall_mem_cons.mpr ⟨List.mem_cons_of_mem _ hdx9, List.forall_mem_cons.mpr ⟨List.mem_cons_self, fun p hp => List.mem_cons_of_mem _ (hsub9 p hp)⟩⟩)) (by k_asm) (by k_asm) (by k_asm) (by k_asm) (by k_asm) (by first | exact rfl | assumption) (by ktr_room) (by ktr_units) ?_)
      (case hq => exact Ne.symm (Nat.ne_of_lt (l1 _ hdx9)))
      (rintro r8 nw8 h8 tk8 F8 N8 ⟨rfl, rfl⟩)
      (try k_sweep)
      k_steps
      (refine' hret _ _ _ _ ?F ?N (.inl ⟨a9, hcn, hsat, hleast.2, _, _, _, _, _, _, rfl, rfl, Ne.symm (Nat.ne_of_lt (l1 _ hdx9)), fun p hp => Nat.ne_of_lt (l1 p (hsub9 p hp))⟩))
      (case F => k_asm)
      (case N => k_asm)
  · intro v' h9 tk9 py9 hP F9 N9
    k_steps
    refine' Sp.use (Sp.sub (lose_c (H := H) (T := T) (c := c) (kl := kl) (st := st) (at_ := at_) (md := .str md tm) (ac := .str ac tac) (ns := ns) (wh := wh) (nw := nw) (rl := .int (-1) _) (hi := hi) ho hoff) ?hsb) (by k_asm) (by k_asm) (by k_asm) (by k_asm) (by k_asm) (by first | exact rfl | assumption) (by ktr_room) (by ktr_units) ?_
    (case hsb => walk_at "my subs")
    rintro r8 nw8 h8 tk8 F8 N8 ⟨a, n, t1, t2, rfl, rfl, f1, f4⟩
    try k_sweep
    k_steps
    refine' hret _ _ _ _ ?F ?N (.inr ⟨fun j hj => hP _ ((List.Perm.mem_iff (by assumption)).mpr (List.mem_range.mpr hj)), _, _, rfl, rfl⟩)
    (case F => k_asm)
    (case N => exact newsSub (by k_asm) (by walk_at "my subs"))

theorem wdF5 : True := by
  k_with "call ref" => (k_here; (with_reducible show wpAny _ _ (call (Value.ref 152) _) _ _ _); refine stop_ ?_)
  trivial

section
variable {w : World} {mean : ExcName → Option Value} {mg mb : Str → Option Value} {f : Addr} {args : List Value} {dp un : Nat} {news : Led}
theorem Sp.upd' {d : Addr} {D : Obj} {g : Obj → Led} {P : Value → Led → Obj → Prop} (U : UpdF d D news g)
    (C : ∀ rest, (∀ p ∈ rest, p.1 ≠ d) → (∀ p ∈ news, p.2 ≠ D → p ∈ rest) → Sp w mean mg mb f args dp un ((d, D) :: rest) (fun r nw => ∃ extra D', nw = extra ++ (d, D') :: rest ∧ Fresh extra ((d, D) :: rest) ∧ P r extra D')) :
    Sp w mean mg mb f args dp un news (fun r nw => ∃ extra D', nw = extra ++ g D' ∧ Fresh extra news ∧ P r extra D') := by
  obtain ⟨pre, post, rfl, hg, h1, h2⟩ := U.split
  refine Sp.mono (Sp.sub (C (pre ++ post) (fun p hp => (List.mem_append.mp hp).elim (h1 p) (h2 p)) fun p hp hne => ?_) fun p hp => ?_) fun r nw ⟨extra, D', e, fr, hP⟩ => ⟨extra ++ g D', ⟨extra, D', rfl, fun x hx p hp => ?_, hP⟩, fun p hp => ?_⟩
  · rcases List.mem_append.mp hp with hp | hp
    · exact List.mem_append_left _ hp
    · rcases List.mem_cons.mp hp with rfl | hp
      · exact absurd rfl hne
      · exact List.mem_append_right _ hp
  · rcases List.mem_cons.mp hp with rfl | hp
    · exact List.mem_append_right _ List.mem_cons_self
    · rcases List.mem_append.mp hp with hp | hp
      · exact List.mem_append_left _ hp
      · exact List.mem_append_right _ (List.mem_cons_of_mem _ hp)
  · rcases List.mem_append.mp hp with hp | hp
    · exact fr x hx p (List.mem_cons_of_mem _ (List.mem_append_left _ hp))
    · rcases List.mem_cons.mp hp with rfl | hp
      · exact fr x hx (d, D) List.mem_cons_self
      · exact fr x hx p (List.mem_cons_of_mem _ (List.mem_append_right _ hp))
  · rw [hg] at hp
    rw [e]
    rcases List.mem_append.mp hp with hp | hp
    · exact List.mem_append_left _ hp
    · rcases List.mem_append.mp hp with hp | hp
      · exact List.mem_append_right _ (List.mem_cons_of_mem _ (List.mem_append_left _ hp))
      · rcases List.mem_cons.mp hp with rfl | hp
        · exact List.mem_append_right _ List.mem_cons_self
        · exact List.mem_append_right _ (List.mem_cons_of_mem _ (List.mem_append_right _ hp))
end
theorem list_kfd {c st at_ kl : Addr} {H : Nat → Int} {T : Nat → Tok} {md ac ns wh nw rl hi : Value} {xs : Array Value} {n : Nat} : listOf xs n ≠ kfd H T c md ac kl st ns wh at_ nw rl hi := fun e => dict_list (congrArg Obj.cls e).symm
theorem tup_kfd {c st at_ kl : Addr} {H : Nat → Int} {T : Nat → Tok} {md ac ns wh nw rl hi : Value} {xs : Array Value} {n : Nat} : tupOf xs n ≠ kfd H T c md ac kl st ns wh at_ nw rl hi := fun e => tup_dict (congrArg Obj.cls e)
theorem KeyIn.to {led led' : Led} {v : Value} {k : Int × Int × Bool} (h : KeyIn led v k) (hs : ∀ p ∈ led, p.2.cls = .type "tuple" → p ∈ led') : KeyIn led' v k := let ⟨a, t1, t2, n, e, hm⟩ := h; ⟨a, t1, t2, n, e, hs _ hm rfl⟩
theorem StIn.to {q : Nat} {led led' : Led} {v : Value} {k : Int} (h : StIn q led v k) (hs : ∀ p ∈ led, p.2.cls = .type "list" → p ∈ led') : StIn q led' v k := let ⟨a, us, n, e, hm, r⟩ := h; ⟨a, us, n, e, hs _ hm rfl, r⟩
theorem start_u {w : World} {mean : ExcName → Option Value} {mg mb : Str → Option Value} {news : Led} {g : Obj → Led} {o dx c kl st at_ : Addr} {H : Nat → Int} {T : Nat → Tok} {md ac op : Str} {tm tac to : Tok} {ns wh nw rl hi : Value} {nk nc nst : Nat} {vk vc vst : List Value} {ks : List (Int × Int × Bool)} {k : Int × Int × Bool} {cs : List By} {S : List Int} {wi : Int} {t4 tk0 : Tok} {key : By}
    (U : UpdF dx (kfd H T c (.str md tm) (.str ac tac) kl st ns wh at_ nw rl hi) news g)
    (ho : (o, instObj 208 dx) ∈ news) (hkl : (kl, listOf vk.toArray nk) ∈ news) (hk : All2 (KeyIn news) vk ks) (hw0 : 0 ≤ wi) (hw1 : wi < 10) (hkw : ks[wi.toNat]? = some k)
    (hc : (c, listOf vc.toArray nc) ∈ news) (hcs : All2 IsB vc cs) (hst : (st, listOf vst.toArray nst) ∈ news) (hS : All2 (StIn ks.length news) vst S) (hSl : S.length = cs.length) (hSn : S.Nodup) (hlen : cs.length < 64) (hsz : ∀ b ∈ cs, b.size < 10000)
    (hmd : (decide (Str.ofString "input" = md) || decide (Str.ofString "i-o" = md)) = true) (hac : ac ≠ Str.ofString "random") (hop : op = Str.ofString "=" ∨ op = Str.ofString ">" ∨ op = Str.ofString ">=") (hkey : key.size < 10000) :
    Sp w mean mg mb 152 [.ref o, .str op to, .bytes key tk0, .int wi t4] 30 300 news (fun x nw' =>
      (∃ i, i < cs.length ∧ sat op key (kkey k cs S i).1 = true ∧ (∀ j, j < cs.length → sat op key (kkey k cs S j).1 = true → j = i ∨ rowLt (kkey k cs S i) (kkey k cs S j) = true) ∧
        ∃ ata n t1 t3 t5 t6, x = .str (Str.ofString "00") t1 ∧ nw' = (ata, tupOf #[.bytes (kkey k cs S i).1 t3, .int ((kkey k cs S i).2 - 1) t5] n) :: g (kfd H T c (.str md tm) (.str ac tac) kl st ns (.int wi t4) ata (.bool false) (.int (-1) t6) hi) ∧ ∀ p ∈ news, p.1 ≠ ata) ∨
      ((∀ j, j < cs.length → sat op key (kkey k cs S j).1 = false) ∧ ∃ t1 t6, x = .str (Str.ofString "23") t1 ∧ nw' = g (kfd H T c (.str md tm) (.str ac tac) kl st ns wh at_ (.bool true) (.int (-1) t6) hi))) := by
  refine Sp.mono (Sp.upd' U (P := fun x e D' =>
      (∃ i, i < cs.length ∧ sat op key (kkey k cs S i).1 = true ∧ (∀ j, j < cs.length → sat op key (kkey k cs S j).1 = true → j = i ∨ rowLt (kkey k cs S i) (kkey k cs S j) = true) ∧
        ∃ ata n t1 t3 t5 t6, x = .str (Str.ofString "00") t1 ∧ e = [(ata, tupOf #[.bytes (kkey k cs S i).1 t3, .int ((kkey k cs S i).2 - 1) t5] n)] ∧ D' = kfd H T c (.str md tm) (.str ac tac) kl st ns (.int wi t4) ata (.bool false) (.int (-1) t6) hi) ∨
      ((∀ j, j < cs.length → sat op key (kkey k cs S j).1 = false) ∧ ∃ t1 t6, x = .str (Str.ofString "23") t1 ∧ e = [] ∧ D' = kfd H T c (.str md tm) (.str ac tac) kl st ns wh at_ (.bool true) (.int (-1) t6) hi)) fun rest h1 h2 => ?_) ?_
  · have hk' : All2 (KeyIn rest) vk ks := hk.mono fun _ _ q => q.to fun p hp hq => h2 p hp fun e => tup_dict (hq.symm.trans (congrArg Obj.cls e))
    have hS' : All2 (StIn ks.length rest) vst S := hS.mono fun _ _ q => q.to fun p hp hq => h2 p hp fun e => dict_list ((congrArg Obj.cls e).symm.trans hq)
    refine Sp.mono (start_c (h2 _ ho (fun e => by have := congrArg Obj.cls e; cases this)) h1 (h2 _ hkl list_kfd) hk' hw0 hw1 hkw (h2 _ hc list_kfd) hcs (h2 _ hst list_kfd) hS' hSl hSn hlen hsz hmd hac hop hkey) ?_
    rintro r nw' (⟨i, hi', hs, hm, ata, n, t1, t3, t5, t6, rfl, rfl, hd, hr⟩ | ⟨hn, t1, t6, rfl, rfl⟩)
    · refine ⟨_, ⟨[(ata, tupOf #[.bytes (kkey k cs S i).1 t3, .int ((kkey k cs S i).2 - 1) t5] n)], _, rfl, fun e he p hp => ?_, .inl ⟨i, hi', hs, hm, ata, n, t1, t3, t5, t6, rfl, rfl, rfl⟩⟩, fun p hp => ?_⟩
      · rw [List.mem_singleton.mp he]
        rcases List.mem_cons.mp hp with rfl | hp
        · exact Ne.symm hd
        · exact hr p hp
      · rcases List.mem_cons.mp hp with rfl | hp
        · exact List.mem_cons_of_mem _ List.mem_cons_self
        · rcases List.mem_cons.mp hp with rfl | hp
          · exact List.mem_cons_self
          · exact List.mem_cons_of_mem _ (List.mem_cons_of_mem _ hp)
    · exact ⟨_, ⟨[], _, rfl, Fresh.nil, .inr ⟨hn, t1, t6, rfl, rfl, rfl⟩⟩, fun p hp => hp⟩
  · rintro r nw' ⟨extra, D', rfl, fr, ⟨i, hi', hs, hm, ata, n, t1, t3, t5, t6, rfl, rfl, rfl⟩ | ⟨hn, t1, t6, rfl, rfl, rfl⟩⟩
    · exact ⟨_, .inl ⟨i, hi', hs, hm, ata, n, t1, t3, t5, t6, rfl, rfl, fun p hp => fr _ List.mem_cons_self p hp⟩, fun p hp => hp⟩
    · exact ⟨_, .inr ⟨hn, t1, t6, rfl, rfl⟩, fun p hp => hp⟩

theorem drop_c {w : World} {mean : ExcName → Option Value} {mg mb : Str → Option Value} {rest : Led} {o dx c kl st at_ : Addr} {H : Nat → Int} {T : Nat → Tok} {md ac ns wh nw rl hi : Value} {nc nst i : Nat} {vc vst : List Value} {ti : Tok}
    (ho : (o, instObj 208 dx) ∈ rest) (hdx : (dx, kfd H T c md ac kl st ns wh at_ nw rl hi) ∈ rest) (hcs : c ≠ st) (hc : ∀ p ∈ rest, p.1 ≠ c) (hs : ∀ p ∈ rest, p.1 ≠ st) (hi : i < vc.length) (hl : vst.length = vc.length) (hlen : vc.length < 64) :
    Sp w mean mg mb 164 [.ref o, .int (i : Int) ti] 5 50 ((c, listOf vc.toArray nc) :: (st, listOf vst.toArray nst) :: rest) (fun x nw' => x = .none ∧ ∃ n1 n2, nw' = (c, listOf (vc.eraseIdx i).toArray n1) :: (st, listOf (vst.eraseIdx i).toArray n2) :: rest) := by
  have h1 : vc[i]? = some vc[i] := List.getElem?_eq_getElem hi
  have hi2 : i < vst.length := by omega
  have h2 : vst[i]? = some vst[i] := List.getElem?_eq_getElem hi2
  have hcs' : st ≠ c := Ne.symm hcs
  unfold Sp
  intro d u gd cn cs' a ccd cl outer A₀ base h₀ L m s Q E B F X N TT hck hd hu hret
  refine wpAny_call ?_
  k_dflt ktr_enter
  k_steps
  refine hret _ _ _ _ (by k_asm) (by k_asm) ⟨rfl, _, _, rfl⟩

theorem wdF6 : True := by
  k_with "call ref" => (k_here; (with_reducible show wpAny _ _ (call (Value.ref 164) _) _ _ _); refine stop_ ?_)
  trivial

theorem delete_c {w : World} {mean : ExcName → Option Value} {mg mb : Str → Option Value} {rest : Led} {o dx c kl st at_ : Addr} {H : Nat → Int} {T : Nat → Tok} {ac : Str} {tm tac tk0 : Tok} {ns wh nw rl hi : Value} {nk nc nst : Nat} {vk vc vst : List Value} {ks : List (Int × Int × Bool)} {k : Int × Int × Bool} {cs : List By} {key : By}
    (ho : (o, instObj 208 dx) ∈ rest) (hcst : c ≠ st) (hcd : dx ≠ c) (hsd : dx ≠ st) (hoff : ∀ p ∈ rest, p.1 ≠ dx) (hoc : ∀ p ∈ rest, p.1 ≠ c) (hos : ∀ p ∈ rest, p.1 ≠ st) (hkl : (kl, listOf vk.toArray nk) ∈ rest) (hk : All2 (KeyIn rest) vk ks) (hkw : ks[0]? = some k)
    (hcs : All2 IsB vc cs) (hvl : vst.length = vc.length) (hlen : cs.length < 64) (hsz : ∀ b ∈ cs, b.size < 10000) (hac : ac ≠ Str.ofString "sequential") :
    Sp w mean mg mb 205 [.ref o, .bytes key tk0] 30 300 ((c, listOf vc.toArray nc) :: (st, listOf vst.toArray nst) :: (dx, kfd H T c (.str (Str.ofString "i-o") tm) (.str ac tac) kl st ns wh at_ nw rl hi) :: rest) (fun x nw' =>
      (∃ i, i < cs.length ∧ (cs[i]?).map (wor k) = some key ∧ (∀ j, j < i → (cs[j]?).map (wor k) ≠ some key) ∧ ∃ t1 t2 n1 n2, x = .str (Str.ofString "00") t1 ∧ nw' = (c, listOf (vc.eraseIdx i).toArray n1) :: (st, listOf (vst.eraseIdx i).toArray n2) :: (dx, kfd H T c (.str (Str.ofString "i-o") tm) (.str ac tac) kl st ns wh at_ nw (.int (-1) t2) hi) :: rest) ∨
      (∀ b ∈ cs, wor k b ≠ key)) := by
  have hvc := hcs.len
  have hne : o ≠ dx := hoff _ ho
  have hoc' : o ≠ c := hoc _ ho
  have hos' : o ≠ st := hos _ ho
  have hlc : ∀ p ∈ (dx, kfd H T c (.str (Str.ofString "i-o") tm) (.str ac tac) kl st ns wh at_ nw rl hi) :: rest, p.1 ≠ c := List.forall_mem_cons.mpr ⟨hcd, hoc⟩
  have hcd' : c ≠ dx := Ne.symm hcd
  have hsd' : st ≠ dx := Ne.symm hsd
  unfold Sp
  intro d u gd cn cs' a ccd cl outer A₀ base h₀ L m s Q E B F X N TT hck hd hu hret
  refine wpAny_call ?_
  k_dflt (walk_at "my enterD")
  k_steps
  refine Stop.go ?_
  refine Sp.use (place_of_c (List.mem_cons_of_mem _ (List.mem_cons_of_mem _ (List.mem_cons_of_mem _ ho))) (List.mem_cons_of_mem _ (List.mem_cons_of_mem _ List.mem_cons_self)) (List.mem_cons_of_mem _ (List.mem_cons_of_mem _ (List.mem_cons_of_mem _ hkl))) (keys_cons (keys_cons (keys_cons hk))) hkw List.mem_cons_self hcs hlen hsz) (by k_asm) (by k_asm) (by k_asm) (by k_asm) (by k_asm) (by first | exact rfl | assumption) (by ktr_room) (by ktr_units) ?_
  rintro r8 nw8 h8 tk8 F8 N8 ⟨rfl, ⟨i, t1, rfl, h1, h2, h3⟩ | ⟨t1, rfl, h1⟩⟩
  · try k_sweep
    k_steps
    refine Stop.go ?_
    refine' Sp.use (drop_c (rest := (dx, kfd H T c (.str (Str.ofString "i-o") tm) (.str ac tac) kl st ns wh at_ nw (.int (-1) _) hi) :: rest) (List.mem_cons_of_mem _ ho) List.mem_cons_self hcst (List.forall_mem_cons.mpr ⟨hcd, hoc⟩) (List.forall_mem_cons.mpr ⟨hsd, hos⟩) (by omega) hvl (by omega)) (by k_asm) (by k_asm) (by k_asm) (by k_asm) (by k_asm) (by first | exact rfl | assumption) (by ktr_room) (by ktr_units) ?_
    rintro r9 nw9 h9 tk9 F9 N9 ⟨rfl, n1, n2, rfl⟩
    try k_sweep
    k_steps
    refine' hret _ _ _ _ ?F ?N (.inl ⟨i, h1, h2, h3, _, _, _, _, rfl, rfl⟩)
    (case F => k_asm)
    (case N => k_asm)
  · try k_sweep
    k_steps
    refine' hret _ _ _ _ ?F ?N (.inr h1)
    (case F => k_asm)
    (case N => k_asm)

theorem wdF7 : True := by
  k_with "call ref" => (k_here; (with_reducible show wpAny _ _ (call (Value.ref 205) _) _ _ _); refine stop_ ?_)
  trivial

theorem st_row {D : Addr} {i : Nat} {t : Tok} {c : Nat} : StIn 2 [(D, listOf (List.replicate (Int.toNat 2) [Value.int (0 + (i : Int)) t]).flatten.toArray c)] (.ref D) (i : Int) :=
  ⟨D, _, c, rfl, List.mem_cons_self, rfl, fun u hu => ⟨t, by
    have e : (List.replicate (Int.toNat 2) [Value.int (0 + (i : Int)) t]).flatten = [Value.int (0 + (i : Int)) t, Value.int (0 + (i : Int)) t] := rfl
    rw [e] at hu
    simp only [List.mem_cons, List.not_mem_nil, or_false, or_self] at hu
    rw [hu, Int.zero_add]⟩⟩
theorem Fresh.cons {e : Addr × Obj} {mk l : Led} (h : ∀ p ∈ l, p.1 ≠ e.1) (hm : Fresh mk l) : Fresh (e :: mk) l := fun x hx => (List.mem_cons.mp hx).elim (fun q => q ▸ h) (hm x)
theorem off1_all {D : Addr} : ∀ {l : Led}, LCg.Off1 D l → ∀ p ∈ l, p.1 ≠ D
  | [], _ => fun _ h => nomatch h
  | _ :: _, h => List.forall_mem_cons.mpr ⟨h.1, off1_all h.2⟩
theorem rows_cast {tl mk : Led} {ys : List Value} {n : Nat} (hA : All2 (fun v (i : Nat) => StIn 2 tl v (i : Int)) ys (List.range n)) (hs : ∀ p ∈ tl, p ∈ mk) : All2 (StIn 2 mk) ys ((List.range n).map fun (i : Nat) => (i : Int)) :=
  ⟨by rw [hA.len, List.length_map], fun i v k a b => by
    rw [List.getElem?_map] at b
    obtain ⟨j, e, rfl⟩ := Option.map_eq_some_iff.mp b
    exact (hA.at_ i v j a e).mono hs⟩
theorem init_c {w : World} {mean : ExcName → Option Value} {mg mb : Str → Option Value} {news : Led} {c kt al ka : Addr} {md ac : Str} {tm tac t1 t2 t3 t4 : Tok} {nc n1 n2 n3 : Nat} {vc : List Value} {cs : List By} {k0 k1 k2 k3 : Int} {b3 : Bool}
    (hc : (c, listOf vc.toArray nc) ∈ news) (hcs : All2 IsB vc cs) (hlen : cs.length < 64) (hkt : (kt, tupOf #[.int k0 t1, .int k1 t2] n1) ∈ news) (hal : (al, listOf #[.ref ka] n2) ∈ news) (hka : (ka, tupOf #[.int k2 t3, .int k3 t4, .bool b3] n3) ∈ news)
    (hm1 : md ≠ Str.ofString "extend") (hm2 : md ≠ Str.ofString "output") :
    Sp w mean mg mb 208 [.ref c, .str md tm, .str ac tac, .ref kt, .ref al] 30 300 news (fun x nw' => ∃ o dx kl st at_ H T mk vk ys nk nst na ta tb tc td te tf tg, x = .ref o ∧ nw' = (dx, kfd H T c (.str md tm) (.str ac tac) kl st (.int (vc.length : Int) tc) (.int 0 td) at_ (.bool false) (.int (-1) te) (.bytes #[] tf)) :: (st, listOf (ys : List Value).toArray nst) :: (mk ++ news) ∧
      (o, instObj 208 dx) ∈ mk ∧ (kl, listOf (vk : List Value).toArray nk) ∈ mk ∧ All2 (KeyIn ((ka, tupOf #[.int k2 t3, .int k3 t4, .bool b3] n3) :: mk)) vk [(k0, k1, false), (k2, k3, b3)] ∧ (at_, tupOf #[.bytes #[] ta, .int (-1) tb] na) ∈ mk ∧ All2 (StIn 2 mk) ys ((List.range cs.length).map fun (i : Nat) => (i : Int)) ∧
      st ≠ dx ∧ (∀ p ∈ mk, p.1 ≠ dx) ∧ (∀ p ∈ mk, p.1 ≠ st) ∧ (∀ p ∈ news, p.1 ≠ dx) ∧ (∀ p ∈ news, p.1 ≠ st) ∧ Fresh mk news ∧ tg = ta) := by
  have hvl : vc.length < 10000 := by have := hcs.len; omega
  unfold Sp
  intro d u gd cn cs' a ccd cl outer A₀ base h₀ L m s Q E B F X N TT hck hd hu hret
  k_dflt (refine' call_cls ?k1 ?k2 ?k3 ?k4 ?k5 ?k6 ?_; (case k1 => k_asm); (case k2 => k_asm); (case k3 => k_asm); (case k4 => k_is); (case k5 => k_is); (case k6 => k_is); k_whole)
  intro x' dx' h' F' N' l1 l2
  (try k_lt l1)
  (try k_lt2 l2)
  (try k_sweep)
  k_dflt (walk_at "my enterC")
  k_steps
  refine Stop.go ?_
  walk_at "exec Assign"
  k_steps
  walk_at "my compU"
  walk_at "my rangeU"
  intro g9
  refine comp_build (c := .type "list") (fun l v (i : Nat) => StIn 2 l v (i : Int)) (fun l l' v i h hs => h.mono hs) (fun _ _ => trivial) ?_ ?_
  · intro ys tl hA htl hoff D9 h9 tk9 F9 N9 o9
    have htd : ∀ q ∈ tl, q.1 ≠ dx' := fun q hq => Ne.symm (hoff q hq (dx', _) (by walk_at "my mem"))
    have N9' := news_sw (news_mv (news_mv (news_mv (news_mv (news_mv (news_mv (news_mv (pre := [_]) N9)))))))
    clear N9
    simp only [List.cons_append, List.nil_append] at N9'
    have o8 := (off1_app o9).1
    replace o9 := (off1_app o9).2
    simp only [LCg.Off1] at o9
    k_steps
    have o7 := off1_all o9.2.2.2.2.2.2.2
    have htl2 : ∀ q ∈ tl, ∀ p ∈ news, p.1 ≠ q.1 := fun q hq p hp => hoff q hq p (by walk_at "my in")
    rw [hcs.len] at hA
    refine' hret _ _ _ _ ?iF (newsSub ?iN ?ih) ⟨x', dx', _, D9, _, fun i => [_, _, _, _, _, _, _, _, _, _, _].getD i 0, fun i => [_, _, _, _, _, _, _, _, _, _, _].getD i 0, (x', _) :: (_, listOf #[.ref _, .ref ka] _) :: (_, tupOf #[.int k0 t1, .int k1 t2, .bool false] _) :: (_, tupOf #[.bytes #[] _, .int (-1) _] _) :: tl, [.ref _, .ref ka], ys, _, _, _, _, _, _, _, _, _, _, rfl, rfl, List.mem_cons_self, List.mem_cons_of_mem _ List.mem_cons_self, ?b1, List.mem_cons_of_mem _ (List.mem_cons_of_mem _ (List.mem_cons_of_mem _ List.mem_cons_self)), rows_cast hA ?b2, ?b3, ?b4, ?b5, ?b6, ?b7, ?b8, rfl⟩
    (case iF => k_asm)
    (case iN => k_asm)
    (case ih => (simp only [List.cons_append]; walk_at "my subs"))
    (case b1 => exact (All2.one (P := KeyIn _) (k := (k0, k1, false)) ⟨_, _, _, _, rfl, List.mem_cons_of_mem _ (List.mem_cons_of_mem _ (List.mem_cons_of_mem _ List.mem_cons_self))⟩).append (All2.one ⟨_, _, _, _, rfl, List.mem_cons_self⟩))
    (case b2 => exact fun p hp => List.mem_cons_of_mem _ (List.mem_cons_of_mem _ (List.mem_cons_of_mem _ (List.mem_cons_of_mem _ hp))))
    (case b3 => k_ne)
    (case b4 => refine List.forall_mem_cons.mpr ⟨?_, List.forall_mem_cons.mpr ⟨?_, List.forall_mem_cons.mpr ⟨?_, List.forall_mem_cons.mpr ⟨?_, htd⟩⟩⟩⟩ <;> k_ne)
    (case b5 => refine List.forall_mem_cons.mpr ⟨?_, List.forall_mem_cons.mpr ⟨?_, List.forall_mem_cons.mpr ⟨?_, List.forall_mem_cons.mpr ⟨?_, o8⟩⟩⟩⟩ <;> k_ne)
    (case b6 => k_all)
    (case b7 => exact o7)
    (case b8 => refine Fresh.cons ?_ (Fresh.cons ?_ (Fresh.cons ?_ (Fresh.cons ?_ htl2))) <;> (dsimp only; first | exact fun p hp => Nat.ne_of_lt (Nat.lt_trans (l1 p hp) l2) | k_all))
  · rintro i v nx C oC m₂ h9 tk9 E' hi ⟨t9, rfl⟩ hC hx hm hsub F9 N9
    k_steps
    rename _ ∧ AllLt _ nx => l9
    refine' ⟨_, _, [(_, _)], rfl, by assumption, newsSub (by k_asm) ?hs, ?hc, ?hf, st_row⟩
    (case hs => walk_at "my subs")
    (case hc => exact fun q hq => by rw [List.mem_singleton.mp hq])
    (case hf => exact fun q hq p hp => by rw [List.mem_singleton.mp hq]; exact Nat.ne_of_lt (kst_ltOf l9.2 p hp))

theorem wdF8 : True := by
  k_with "call ref" => (k_here; (with_reducible show wpAny _ _ (call (Value.ref 208) _) _ _ _); refine stop_ ?_)
  trivial

theorem take_c {w : World} {mean : ExcName → Option Value} {mg mb : Str → Option Value} {b : Addr} {N k : Int} {t t2 : Tok} {n : Nat} {rest : Led} (hk : 0 < k) (hk2 : k < 100) (hr : ∀ p ∈ rest, p.1 ≠ b) :
    Sp w mean mg mb 219 [.ref b, .int k t2] 5 50 ((b, listOf #[.int N t] n) :: rest) (fun r nw => ∃ j : Nat, ∃ t1 N' t3, r = .int (j : Int) t1 ∧ (j : Int) < k ∧ nw = (b, listOf #[.int N' t3] n) :: rest) := by
  unfold Sp
  intro d u gd cn cs a ccd cl outer A₀ base h₀ L m s Q E B F X NN TT hck hd hu hret
  refine wpAny_call ?_
  k_dflt ktr_enter
  k_steps
  have h1 := Int.fmod_nonneg_of_pos N hk
  have h2 := Int.fmod_lt_of_pos N hk
  have h3 := Int.toNat_of_nonneg h1
  refine' hret _ _ _ _ ?tF ?tN ⟨(N.fmod k).toNat, _, _, _, congrArg (Value.int · _) h3.symm, by rw [h3]; exact h2, ?tE⟩
  (case tF => k_asm)
  rotate_left
  (case tE => exact rfl)
  (case tN => k_asm)
theorem take_u {w : World} {mean : ExcName → Option Value} {mg mb : Str → Option Value} {b : Addr} {N k : Int} {t t2 : Tok} {n : Nat} {news : Led} {g : Obj → Led} (hk : 0 < k) (hk2 : k < 100) (U : UpdF b (listOf #[.int N t] n) news g) :
    Sp w mean mg mb 219 [.ref b, .int k t2] 5 50 news (fun r nw => ∃ j : Nat, ∃ t1 N' t3, r = .int (j : Int) t1 ∧ (j : Int) < k ∧ nw = g (listOf #[.int N' t3] n)) :=
  Sp.mono (Sp.upd U (P := fun r e D' => ∃ j : Nat, ∃ t1 N' t3, r = .int (j : Int) t1 ∧ (j : Int) < k ∧ e = [] ∧ D' = listOf #[.int N' t3] n) fun rest h1 _ => Sp.mono (take_c hk hk2 h1) fun r nw ⟨j, t1, N', t3, e1, e2, e4⟩ => ⟨nw, ⟨[], _, e4, Fresh.nil, j, t1, N', t3, e1, e2, rfl, rfl⟩, fun _ h => h⟩)
    fun r nw ⟨extra, D', e, fr, j, t1, N', t3, e1, e2, e4, e5⟩ => ⟨nw, ⟨j, t1, N', t3, e1, e2, by rw [e, e4, e5]; rfl⟩, fun _ h => h⟩

local macro_rules | `(tactic| walk_at "call ref") => `(tactic| (k_here; (with_reducible show wpAny _ _ (call (Value.ref 219) _) _ _ _); (k_dflt (refine' Sp.use (take_u ?a1 ?a2 ?a3) ?k1 ?k2 ?k3 ?k4 ?k5 ?k6 ?k7 ?k8 ?_; walk_at "my use"; (case a3 => k_updF); (case a1 | a2 => first | decide | omega))); intro r9 nw9 h' tk' F' N' hp9; obtain ⟨j', t1', N1', t3', e9, jh', e8⟩ := hp9; subst e9; subst e8; (try dsimp only at N'); walk_at "my tidy"))

/-- a contract with a word over the heap below -/
def SpH (w : World) (mean : ExcName → Option Value) (mg mb : Str → Option Value) (f : Addr) (args : List Value) (dp un : Nat) (news : Led) (H : Heap → Prop) (Post : Value → Led → Prop) : Prop :=
  ∀ (d u : Nat) (gd : Option (List Code)) (cn : Str) (cs : Scope) (a : Addr) (ccd : Value) (cl : List (Str × Addr)) (outer : List Env) (A₀ : Around) (base h₀ : Heap) (L : Addr) (m : Str → Option Value) (s : Shared)
    (Q E : Value → Shared → Prop), H h₀ →
    Below A₀ base outer h₀ → Fr h₀ L s.heap m → (hd.heap_39 w.params).In h₀ → News h₀ L s.heap news → Top view (looseW view [Str.ofString "LedgerError", Str.ofString "KeyFile"]) mean mg mb h₀ → cs.kind = .function →
    d + dp < recursionLimit → u + un < cLine →
    (∀ r news' h' tk', Fr h₀ L h' m → News h₀ L h' news' → Post r news' → Q r { s with heap := h', toks := tk' }) →
    wpAny (model Challenge.rw_pc0127_01.row.prog w) (ktrTop d u gd cn cs L a ccd cl outer) (call (.ref f) args) Q E s
theorem SpH.use {w : World} {mean : ExcName → Option Value} {mg mb : Str → Option Value} {f : Addr} {args : List Value} {dp un : Nat} {news : Led} {H : Heap → Prop} {Post : Value → Led → Prop} (C : SpH w mean mg mb f args dp un news H Post)
    {d u : Nat} {gd : Option (List Code)} {cn : Str} {cs : Scope} {a : Addr} {ccd : Value} {cl : List (Str × Addr)} {outer : List Env} {A₀ : Around} {base h₀ : Heap} {L : Addr} {m : Str → Option Value} {s : Shared} {Q E : Value → Shared → Prop} (hH : H h₀)
    (B : Below A₀ base outer h₀) (F : Fr h₀ L s.heap m) (X : (hd.heap_39 w.params).In h₀) (N : News h₀ L s.heap news) (T : Top view (looseW view [Str.ofString "LedgerError", Str.ofString "KeyFile"]) mean mg mb h₀) (hk : cs.kind = .function)
    (hd : d + dp < recursionLimit) (hu : u + un < cLine)
    (h : ∀ r news' h' tk', Fr h₀ L h' m → News h₀ L h' news' → Post r news' → Q r { s with heap := h', toks := tk' }) :
    wpAny (model Challenge.rw_pc0127_01.row.prog w) (ktrTop d u gd cn cs L a ccd cl outer) (call (.ref f) args) Q E s := C d u gd cn cs a ccd cl outer A₀ base h₀ L m s Q E hH B F X N T hk hd hu h
theorem ints_at : ∀ {vs : List Value} {ns : List Int}, IntsAre vs ns → ∀ {i : Nat} {v : Value}, vs[i]? = some v → ∃ n t, v = .int n t := by
  intro vs ns h
  induction h with
  | nil => intro i v h; simp at h
  | cons _ _ _ ih => intro i v h; cases i with
    | zero => exact ⟨_, _, (Option.some.inj h).symm⟩
    | succ i => exact ih h
theorem bagnn {N n : Int} (h : 0 ≤ N) : 0 ≤ N * 1000033 + n.fmod (10 ^ Int.toNat 120) := Int.add_nonneg (Int.mul_nonneg h (by decide)) (Int.fmod_nonneg_of_pos _ (by decide))
theorem bits_ok {N : Int} (h0 : 0 ≤ N) (h : N < 10 ^ Int.toNat 50) : (Builtin.Int.intBits N : Int) * 7 ≤ 2 ^ 27 := by
  have hb : Builtin.Int.intBits N ≤ 200 := by
    unfold Builtin.Int.intBits
    split
    · omega
    · have h1 : N.natAbs ≠ 0 := by simp_all
      have h2 : N.natAbs < 2 ^ 199 := by
        have : (10 : Int) ^ Int.toNat 50 < 2 ^ 199 := by decide
        omega
      have := (Nat.log2_lt h1).mpr h2
      omega
  omega
theorem wdF9 : True := by
  k_with "binaryOp Pow int int" => (k_here; (refine pow_int (by decide) (bits_ok (by assumption) (by assumption)) ?_); k_whole)
  trivial
theorem bag_c {w : World} {mean : ExcName → Option Value} {mg mb : Str → Option Value} {sc : Addr} {vs : List Value} {ns : List Int} {rest : Led} (hi : IntsAre vs ns) (hl : ns.length ≤ 63) (hlay : (PyData.list (List.map PyData.int ns)).layable0 = true) :
    SpH w mean mg mb 226 [.ref sc] 5 50 rest (fun h₀ => h₀.IsList sc vs.toArray) (fun r nw => ∃ b N t n, r = .ref b ∧ nw = (b, listOf #[.int N t] n) :: rest ∧ ∀ p ∈ rest, p.1 ≠ b) := by
  unfold SpH
  intro d u gd cn cs a ccd cl outer A₀ base h₀ L m s Q E hsc B F X NN TT hck hd hu hret
  refine wpAny_call ?_
  k_dflt ktr_enter
  rename Fr h₀ _ _ _ => FG
  have hsc' := FG.lst hsc
  k_steps
  walk_at "my for"
  refine' list_roP (yv := Str.ofString "number") (fun _ v => ∃ N t, v = some (.int N t) ∧ 0 ≤ N) rfl ?hl (by assumption) (by assumption) ⟨7, _, rfl, by decide⟩ ?_ ?_
  (case hl => k_mem)
  · rintro i v h9 tk9 nx py hv ⟨N, t, rfl, hN0⟩ hsub F9 N9
    obtain ⟨n9, t9, rfl⟩ := ints_at (by assumption) hv
    k_steps
    exact RoEndP.next (by assumption) (newsSub (by assumption) (by walk_at "my sub")) ⟨N * 1000033 + n9.fmod (10 ^ Int.toNat 120), _, if_pos rfl, bagnn hN0⟩ (fun z hz hz2 => by simp [hz, hz2])
  · rintro v' h9 tk9 py ⟨N, t, rfl, hN0⟩ F9 N9
    k_steps
    trace_state
    all_goals
      refine' hret _ _ _ _ ?bF ?bN ⟨_, _, _, _, rfl, rfl, ?bO⟩
      (case bF => k_asm)
      (case bN => exact newsSub (by k_asm) (by walk_at "my subs"))
      (case bO => k_all)

theorem wdF10 : True := by
  k_with "call ref" => (k_here; (with_reducible show wpAny _ _ (call (Value.ref 226) _) _ _ _); refine stop_ ?_)
  trivial

theorem isso_c {w : World} {mean : ExcName → Option Value} {mg mb : Str → Option Value} {op : Str} {part key : By} {t1 t2 t3 : Tok} {rest : Led} :
    Sp w mean mg mb 233 [.str op t1, .bytes part t2, .bytes key t3] 5 50 rest (fun r nw => r = .bool (if op = Str.ofString "=" then decide (part = key) else if op = Str.ofString ">" then blt key part else !blt part key) ∧ nw = rest) := by
  unfold Sp
  intro d u gd cn cs a ccd cl outer A₀ base h₀ L m s Q E B F X N TT hck hd hu hret
  refine wpAny_call ?_
  k_dflt ktr_enter
  k_steps
  · exact hret _ _ _ _ (by k_asm) (by k_asm) ⟨by rw [if_pos (beq_iff_eq.mp (by assumption))], rfl⟩
  · exact hret _ _ _ _ (by k_asm) (by k_asm) ⟨by rw [if_neg (beq_eq_false_iff_ne.mp (by assumption)), if_pos (beq_iff_eq.mp (by assumption))], rfl⟩
  · exact hret _ _ _ _ (by k_asm) (by k_asm) ⟨by rw [if_neg (beq_eq_false_iff_ne.mp (by assumption)), if_neg (beq_eq_false_iff_ne.mp (by assumption))], rfl⟩

theorem wdF11 : True := by
  k_with "call ref" => (k_here; (with_reducible show wpAny _ _ (call (Value.ref 233) _) _ _ _); refine stop_ ?_)
  trivial

/-- the files of the law: records of four, apart by their first three -/
structure CsOk (cs : List By) : Prop where
  size : ∀ b ∈ cs, b.size = 4
  nodup : (cs.map fun b => KBy.picked b none (some 3)).Nodup
theorem CsOk.nil : CsOk [] := ⟨(fun _ h => nomatch h), List.nodup_nil⟩
theorem CsOk.add {cs : List By} {r : By} (h : CsOk cs) (hr : r.size = 4) (hn : ¬ KBy.picked r none (some 3) ∈ cs.map fun b => KBy.picked b none (some 3)) : CsOk (cs ++ [r]) :=
  ⟨fun b hb => by
    rcases List.mem_append.mp hb with hb | hb
    · exact h.size b hb
    · rw [List.mem_singleton.mp hb]; exact hr, by
    rw [List.map_append]
    refine List.nodup_append.mpr ⟨h.nodup, by simp, fun a ha b hb e => hn ?_⟩
    rw [List.map_cons, List.map_nil, List.mem_singleton] at hb
    rw [← hb, ← e]
    exact ha⟩
theorem wor03 (b : By) {f : Bool} : wor (0, 3, f) b = KBy.picked b none (some 3) := by
  unfold wor
  rw [KBc.picked_eq, KBc.picked_eq]
  have e : clipAt b.size 0 = 0 := by simp [clipAt]; omega
  simp [e]
/-- the word of the loop that fills the file -/
def CJ (c bag : Addr) (bn i : Nat) (mu : Led) : Prop := ∃ cs vc nc N t, mu = [(c, listOf (vc : List Value).toArray nc), (bag, listOf #[.int N t] bn)] ∧ All2 IsB vc cs ∧ cs.length ≤ i ∧ CsOk cs
section
variable {prog : Program} {w : World} {A : Around} {E : Value → Shared → Prop} {s : Shared} {value slice : PySem.Expr} {h₀ : Heap} {L : Addr} {m : Str → Option Value} {news : Led} {Q : Value → Shared → Prop}
/-- one of two words, whichever -/
theorem item_two {l : Addr} {a b : Str} {t1 t2 u : Tok} {n j : Nat}
    (N : News h₀ L s.heap news) (hl : (l, listOf #[.str a t1, .str b t2] n) ∈ news) (hj : (j : Int) < 2) (h : ∀ md t, (md = a ∨ md = b) → Q (.str md t) s)
    (hs : subscripted slice false (.ref l) (.int (j : Int) u) = operate [.ref l, .int (j : Int) u] (getItem (.ref l) (.int (j : Int) u)) := by with_unfolding_all rfl) :
    wpAny (model prog w) A (subscriptTail value slice (.ref l) (.int (j : Int) u)) Q E s := by
  match j, hj with
  | 0, _ => exact item_led (vs := [.str a t1, .str b t2]) N hl (by omega) rfl (by omega) (h a t1 (.inl rfl)) hs
  | 1, _ => exact item_led (vs := [.str a t1, .str b t2]) N hl (by omega) rfl (by omega) (h b t2 (.inr rfl)) hs
  | j + 2, hj => omega
theorem item_three {l : Addr} {a b c : Str} {t1 t2 t3 u : Tok} {n j : Nat}
    (N : News h₀ L s.heap news) (hl : (l, listOf #[.str a t1, .str b t2, .str c t3] n) ∈ news) (hj : (j : Int) < 3) (h : ∀ md t, (md = a ∨ md = b ∨ md = c) → Q (.str md t) s)
    (hs : subscripted slice false (.ref l) (.int (j : Int) u) = operate [.ref l, .int (j : Int) u] (getItem (.ref l) (.int (j : Int) u)) := by with_unfolding_all rfl) :
    wpAny (model prog w) A (subscriptTail value slice (.ref l) (.int (j : Int) u)) Q E s := by
  match j, hj with
  | 0, _ => exact item_led (vs := [.str a t1, .str b t2, .str c t3]) N hl (by omega) rfl (by omega) (h a t1 (.inl rfl)) hs
  | 1, _ => exact item_led (vs := [.str a t1, .str b t2, .str c t3]) N hl (by omega) rfl (by omega) (h b t2 (.inr (.inl rfl))) hs
  | 2, _ => exact item_led (vs := [.str a t1, .str b t2, .str c t3]) N hl (by omega) rfl (by omega) (h c t3 (.inr (.inr rfl))) hs
  | j + 3, hj => omega
end
theorem wdF12 : True := by
  k_with "subscriptTail" => (k_here; (with_reducible show wpAny _ _ (subscriptTail (Expr.List _ _) _ (Value.ref _) (Value.int _ _)) _ _ _); refine stop_ ?_)
  trivial
theorem fresh_cons {e : Addr × Obj} {mk X : Led} (h : Fresh mk (e :: X)) : (∀ p ∈ mk, p.1 ≠ e.1) ∧ Fresh mk X := ⟨fun p hp => Ne.symm (h p hp e List.mem_cons_self), fun p hp q hq => h p hp q (List.mem_cons_of_mem _ hq)⟩
theorem two_ne {md a b c : Str} (h : md = a ∨ md = b) (h1 : a ≠ c) (h2 : b ≠ c) : md ≠ c := by
  rcases h with rfl | rfl
  · exact h1
  · exact h2
local macro_rules | `(tactic| k_all) => `(tactic| (refine List.forall_mem_cons.mpr ⟨?_, ?_⟩; (focus (first | k_ne | (dsimp only; k_ne))); (first | assumption | exact List.forall_mem_nil _ | k_all)))

/-! ## the plain law: what stays in order -/
abbrev Row3 := By × Int × By
def row3 (k : Int × Int × Bool) (y : By × Int) : Row3 := (wor k y.1, y.2, y.1)
def rk (x : Row3) : By × Int := (x.1, x.2.1)
/-- a row of the law in the ledger -/
def XRow (led : Led) (v : Value) (x : Row3) : Prop := ∃ a t u t' n, v = .ref a ∧ (a, tupOf #[.bytes x.1 t, .int x.2.1 u, .bytes x.2.2 t'] n) ∈ led
theorem XRow.mono {led led' : Led} {v : Value} {x : Row3} (h : XRow led v x) (hs : ∀ p ∈ led, p ∈ led') : XRow led' v x := let ⟨a, t, u, t', n, e, hm⟩ := h; ⟨a, t, u, t', n, e, hs _ hm⟩
theorem XRow.row {led : Led} {v : Value} {x : Row3} (h : XRow led v x) : RowIn led v (rk x) := let ⟨a, t, u, _, n, e, hm⟩ := h; ⟨a, _, t, u, n, e, hm⟩
theorem mem_zip_at {α β : Type} {l : List α} {r : List β} {y : α × β} : y ∈ l.zip r ↔ ∃ i : Nat, l[i]? = some y.1 ∧ r[i]? = some y.2 := by
  rw [List.mem_iff_getElem?]
  constructor
  · rintro ⟨i, h⟩
    rw [List.getElem?_zip_eq_some] at h
    exact ⟨i, h⟩
  · rintro ⟨i, h⟩
    exact ⟨i, List.getElem?_zip_eq_some.mpr h⟩
theorem zip_in {cs : List By} {S : List Int} (hl : S.length = cs.length) {i : Nat} (hi : i < cs.length) : (cs.getD i #[], S.getD i 0) ∈ cs.zip S := by
  refine mem_zip_at.mpr ⟨i, ?_, ?_⟩
  · simp [hi]
  · have : i < S.length := by omega
    simp [this]
theorem zip_out {cs : List By} {S : List Int} {y : By × Int} (h : y ∈ cs.zip S) : ∃ i, i < cs.length ∧ y = (cs.getD i #[], S.getD i 0) := by
  obtain ⟨i, h1, h2⟩ := mem_zip_at.mp h
  have hi := (List.getElem?_eq_some_iff.mp h1).1
  have hi2 := (List.getElem?_eq_some_iff.mp h2).1
  refine ⟨i, hi, ?_⟩
  obtain ⟨y1, y2⟩ := y
  simp only at h1 h2
  simp [List.getD_eq_getElem?_getD, h1, h2]
theorem rowLt_irrefl (a : By × Int) : rowLt a a = false := by
  cases q : rowLt a a with
  | false => rfl
  | true => have := rowLt_asymm q; rw [q] at this; exact this
/-- has the next row this key -/
def nextIs (w : By) : List Row3 → Bool | [] => false | z :: _ => decide (z.1 = w)
/-- what is left to read, in order: of the rows Z those behind pos -/
structure LeftOk (k : Int × Int × Bool) (pos : By × Int) (Z : List (By × Int)) (X : List Row3) : Prop where
  srt : X.Pairwise (fun a b => rowLt (rk a) (rk b) = true)
  mem : ∀ x, x ∈ X ↔ ∃ y, y ∈ Z ∧ x = row3 k y ∧ rowLt pos (rk x) = true
section
variable {k : Int × Int × Bool} {pos pos' : By × Int} {cs : List By} {S : List Int} {X : List Row3} {x : Row3} {i : Nat}
theorem LeftOk.head (h : LeftOk k pos (cs.zip S) (x :: X)) (hl : S.length = cs.length) (hn : Nxt k cs S pos i) : x = row3 k (cs.getD i #[], S.getD i 0) := by
  obtain ⟨hi, hp, hmin⟩ := hn
  obtain ⟨y, hy, hx, hpx⟩ := (h.mem x).mp List.mem_cons_self
  obtain ⟨j, hj, rfl⟩ := zip_out hy
  have hr : row3 k (cs.getD i #[], S.getD i 0) ∈ x :: X := (h.mem _).mpr ⟨_, zip_in hl hi, rfl, hp⟩
  rcases List.mem_cons.mp hr with e | hr
  · exact e.symm
  · have h1 : rowLt (rk x) (kkey k cs S i) = true := (List.pairwise_cons.mp h.srt).1 _ hr
    rw [hx] at hpx h1
    rcases hmin j hj hpx with rfl | h2
    · exact hx
    · have h3 := rowLt_asymm h1
      rw [show kkey k cs S i = rk (row3 k (cs.getD i #[], S.getD i 0)) from rfl] at h2
      exact absurd (show rowLt (kkey k cs S i) (rk (row3 k (cs.getD j #[], S.getD j 0))) = true from h2) (by rw [h3]; decide)
theorem LeftOk.nil_no (h : LeftOk k pos (cs.zip S) []) (hl : S.length = cs.length) : ¬ Nxt k cs S pos i := fun hn => by
  have := (h.mem (row3 k (cs.getD i #[], S.getD i 0))).mpr ⟨_, zip_in hl hn.1, rfl, hn.2.1⟩
  cases this
theorem LeftOk.cons_no (h : LeftOk k pos (cs.zip S) (x :: X)) : ¬ ∀ j, j < cs.length → rowLt pos (kkey k cs S j) = false := fun hn => by
  obtain ⟨y, hy, hx, hpx⟩ := (h.mem x).mp List.mem_cons_self
  obtain ⟨j, hj, rfl⟩ := zip_out hy
  rw [hx] at hpx
  have := hn j hj
  rw [show kkey k cs S j = rk (row3 k (cs.getD j #[], S.getD j 0)) from rfl, hpx] at this
  cases this
theorem LeftOk.step {Z : List (By × Int)} (h : LeftOk k pos Z (x :: X)) : LeftOk k (rk x) Z X := by
  obtain ⟨h1, h2⟩ := List.pairwise_cons.mp h.srt
  obtain ⟨_, _, _, hpx⟩ := (h.mem x).mp List.mem_cons_self
  refine ⟨h2, fun z => ⟨fun hz => ?_, ?_⟩⟩
  · obtain ⟨y, hy, e, _⟩ := (h.mem z).mp (List.mem_cons_of_mem _ hz)
    exact ⟨y, hy, e, h1 z hz⟩
  · rintro ⟨y, hy, e, hlt⟩
    rcases List.mem_cons.mp ((h.mem z).mpr ⟨y, hy, e, rowLt_trans hpx hlt⟩) with e2 | hz
    · rw [e2, rowLt_irrefl] at hlt; cases hlt
    · exact hz
theorem LeftOk.shift {Z : List (By × Int)} (h : LeftOk k pos Z X) (he : ∀ y ∈ Z, rowLt pos' (rk (row3 k y)) = rowLt pos (rk (row3 k y))) : LeftOk k pos' Z X := by
  refine ⟨h.srt, fun x => (h.mem x).trans ⟨?_, ?_⟩⟩
  · rintro ⟨y, hy, rfl, hlt⟩; exact ⟨y, hy, rfl, by rw [he y hy]; exact hlt⟩
  · rintro ⟨y, hy, rfl, hlt⟩; exact ⟨y, hy, rfl, by rw [← he y hy]; exact hlt⟩
end
theorem ord_push : ∀ (a b : List UInt8), a.length = b.length → a ≠ b → Builtin.Bytes.order (a ++ [0]) b = Builtin.Bytes.order a b
  | [], [], _, h => absurd rfl h
  | [], _ :: _, h, _ => by simp at h
  | _ :: _, [], h, _ => by simp at h
  | x :: a, y :: b, hl, hne => by
    simp only [List.cons_append, Builtin.Bytes.order]
    by_cases h1 : x < y
    · simp [h1]
    · by_cases h2 : y < x
      · simp [h1, h2]
      · have e : x = y := UInt8.le_antisymm (UInt8.not_lt.mp h2) (UInt8.not_lt.mp h1)
        subst e
        simp only [h1, if_false, gt_iff_lt]
        exact ord_push a b (by simpa using hl) (fun q => hne (by rw [q]))
theorem ord_push_self : ∀ (a : List UInt8), Builtin.Bytes.order (a ++ [0]) a ≠ .lt
  | [] => by simp [Builtin.Bytes.order]
  | x :: a => by
    simp only [List.cons_append, Builtin.Bytes.order, UInt8.lt_irrefl, if_false, gt_iff_lt]
    exact ord_push_self a
theorem rowLt_push {a b : By} {s t : Int} (hs : a.size = b.size) (hu : a = b → ¬ s < t) : rowLt (a ++ #[0], -1) (b, t) = rowLt (a, s) (b, t) := by
  have hne : a ++ #[0] ≠ b := fun e => by
    have := congrArg Array.size e
    rw [Array.size_append] at this
    simp at this
    omega
  by_cases e : a = b
  · subst e
    have h1 : blt (a ++ #[0]) a = false := by
      simp only [blt, Array.toList_append]
      cases q : Builtin.Bytes.order (a.toList ++ [0]) a.toList == .lt with
      | false => rfl
      | true => exact absurd (eq_of_beq q) (ord_push_self _)
    simp only [rowLt, h1, decide_eq_false hne, blt_irrefl, Bool.false_and, Bool.or_false, Bool.false_or, decide_eq_false (hu rfl), Bool.and_false]
  · have h1 : blt (a ++ #[0]) b = blt a b := by
      simp only [blt, Array.toList_append]
      rw [ord_push a.toList b.toList (by simpa using hs) (fun q => e (Array.toList_inj.mp q))]
    simp only [rowLt, h1, decide_eq_false hne, decide_eq_false e, Bool.false_and]
section
variable {k : Int × Int × Bool} {pos : By × Int} {cs : List By} {S : List Int} {X : List Row3} {x : Row3} {i : Nat} {wi : Int}
/-- the file stands behind the row that was read -/
theorem LeftOk.read (h : LeftOk k pos (cs.zip S) (row3 k (cs.getD i #[], S.getD i 0) :: X)) (hi : i < cs.length)
    (hu : ¬0 < wi → ∀ j, j < cs.length → (wor k (cs.getD i #[])).size = (wor k (cs.getD j #[])).size ∧ (wor k (cs.getD i #[]) = wor k (cs.getD j #[]) → j = i)) :
    LeftOk k (fat k cs S wi i) (cs.zip S) X := by
  by_cases hw : 0 < wi
  · rw [fat_1 hw]; exact h.step
  · rw [fat_0 hw]
    refine h.step.shift fun y hy => ?_
    obtain ⟨j, hj, rfl⟩ := zip_out hy
    obtain ⟨h1, h2⟩ := hu hw j hj
    exact rowLt_push h1 fun e => by rw [h2 e]; exact Int.lt_irrefl _
theorem LeftOk.later (h : LeftOk k pos (cs.zip S) (row3 k (cs.getD i #[], S.getD i 0) :: X)) (hl : S.length = cs.length) :
    later k cs S i = nextIs (wor k (cs.getD i #[])) X := by
  obtain ⟨h1, h2⟩ := List.pairwise_cons.mp h.srt
  have hs := h.step
  have key : ∀ j, j < cs.length → isLater k cs S i j = true → row3 k (cs.getD j #[], S.getD j 0) ∈ X := fun j hj hlt => by
    simp only [isLater, Bool.and_eq_true, decide_eq_true_eq] at hlt
    refine (hs.mem _).mpr ⟨_, zip_in hl hj, rfl, ?_⟩
    show rowLt (kkey k cs S i) (kkey k cs S j) = true
    simp [rowLt, hlt.1, hlt.2]
  rw [Bool.eq_iff_iff]
  unfold Mine.later
  rw [List.any_eq_true]
  constructor
  · rintro ⟨j, hj, hlt⟩
    have hm := key j (List.mem_range.mp hj) hlt
    simp only [isLater, Bool.and_eq_true, decide_eq_true_eq] at hlt
    cases X with
    | nil => cases hm
    | cons z X' =>
      show decide (z.1 = _) = true
      simp only [decide_eq_true_eq]
      have hz : rowLt (kkey k cs S i) (rk z) = true := h1 z List.mem_cons_self
      rcases List.mem_cons.mp hm with e | hm
      · rw [← e]; exact hlt.1
      · have hz2 : rowLt (rk z) (kkey k cs S j) = true := (List.pairwise_cons.mp h2).1 _ hm
        have e1 : blt (kkey k cs S i).1 z.1 = false := by
          cases q : blt (kkey k cs S i).1 z.1 with
          | false => rfl
          | true =>
            simp only [rowLt, Bool.or_eq_true, Bool.and_eq_true, decide_eq_true_eq] at hz2
            rcases hz2 with q2 | ⟨q2, _⟩
            · have := blt_trans q q2
              rw [hlt.1, blt_irrefl] at this; cases this
            · rw [show z.1 = (rk z).1 from rfl, q2, hlt.1, blt_irrefl] at q; cases q
        simp only [rowLt, Bool.or_eq_true, Bool.and_eq_true, decide_eq_true_eq] at hz
        rcases hz with q | ⟨q, _⟩
        · rw [show (rk z).1 = z.1 from rfl, e1] at q; cases q
        · exact q.symm
  · intro hz
    cases X with
    | nil => cases hz
    | cons z X' =>
      replace hz : decide (z.1 = _) = true := hz
      simp only [decide_eq_true_eq] at hz
      obtain ⟨y, hy, e, _⟩ := (hs.mem z).mp List.mem_cons_self
      obtain ⟨j, hj, rfl⟩ := zip_out hy
      have hlt : rowLt (kkey k cs S i) (rk z) = true := h1 z List.mem_cons_self
      rw [e] at hlt hz
      refine ⟨j, List.mem_range.mpr hj, ?_⟩
      simp only [rowLt, Bool.or_eq_true, Bool.and_eq_true, decide_eq_true_eq] at hlt
      simp only [isLater, Bool.and_eq_true, decide_eq_true_eq]
      rcases hlt with q | q
      · rw [show (kkey k cs S i).1 = (rk (row3 k (cs.getD j #[], S.getD j 0))).1 from hz.symm, blt_irrefl] at q; cases q
      · exact ⟨hz, q.2⟩
end
/-! taking records out -/
theorem CsOk.pick_at {cs : List By} (h : CsOk cs) {i d : Nat} (hd : d < cs.length) (e : (cs[i]?).map (fun b => KBy.picked b none (some 3)) = some (KBy.picked cs[d] none (some 3))) : i = d := by
  have hn := h.nodup
  have hi : i < cs.length := by
    rcases Nat.lt_or_ge i cs.length with q | q
    · exact q
    · rw [List.getElem?_eq_none q] at e; cases e
  rw [List.getElem?_eq_getElem hi] at e
  have e' : KBy.picked cs[i] none (some 3) = KBy.picked cs[d] none (some 3) := Option.some.inj e
  have h1 : i < (cs.map fun b => KBy.picked b none (some 3)).length := by simpa using hi
  have h2 : d < (cs.map fun b => KBy.picked b none (some 3)).length := by simpa using hd
  exact (List.getElem_inj (h₀ := h1) (h₁ := h2) hn).mp (by simpa using e')
theorem CsOk.inj {cs : List By} (h : CsOk cs) {i d : Nat} {b : By} (hi : cs[i]? = some b) (hd : cs[d]? = some b) : i = d := by
  have h1 := (List.getElem?_eq_some_iff.mp hd)
  refine h.pick_at h1.1 ?_
  rw [hi, h1.2]; rfl
theorem CsOk.erase {cs : List By} (h : CsOk cs) (d : Nat) : CsOk (cs.eraseIdx d) :=
  ⟨fun b hb => h.size b (List.mem_of_mem_eraseIdx hb), List.Pairwise.sublist (List.Sublist.map _ (List.eraseIdx_sublist ..)) h.nodup⟩
theorem LeftOk.del {k : Int × Int × Bool} {pos : By × Int} {cs : List By} {S : List Int} {X : List Row3} {d : Nat} (h : LeftOk k pos (cs.zip S) X) (hok : CsOk cs) (hd : d < cs.length) :
    LeftOk k pos ((cs.eraseIdx d).zip (S.eraseIdx d)) (X.filter fun x => !decide (x.2.2 = cs[d])) := by
  have hcd : cs[d]? = some cs[d] := List.getElem?_eq_getElem hd
  refine ⟨h.srt.filter _, fun x => ?_⟩
  rw [List.mem_filter, h.mem]
  simp only [Bool.not_eq_true', decide_eq_false_iff_not]
  constructor
  · rintro ⟨⟨y, hy, rfl, hlt⟩, hne⟩
    refine ⟨y, ?_, rfl, hlt⟩
    obtain ⟨i, h1, h2⟩ := mem_zip_at.mp hy
    refine mem_zip_at.mpr ?_
    have hid : i ≠ d := fun e => hne (by rw [e, hcd] at h1; exact (Option.some.inj h1).symm)
    rcases Nat.lt_or_gt_of_ne hid with q | q
    · exact ⟨i, by rw [List.getElem?_eraseIdx, if_pos q]; exact h1, by rw [List.getElem?_eraseIdx, if_pos q]; exact h2⟩
    · obtain ⟨j, rfl⟩ : ∃ j, i = j + 1 := ⟨i - 1, by omega⟩
      exact ⟨j, by rw [List.getElem?_eraseIdx, if_neg (by omega)]; exact h1, by rw [List.getElem?_eraseIdx, if_neg (by omega)]; exact h2⟩
  · rintro ⟨y, hy, rfl, hlt⟩
    obtain ⟨i, h1, h2⟩ := mem_zip_at.mp hy
    rw [List.getElem?_eraseIdx] at h1 h2
    by_cases q : i < d
    · rw [if_pos q] at h1 h2
      exact ⟨⟨y, mem_zip_at.mpr ⟨i, h1, h2⟩, rfl, hlt⟩, fun e => by
        have : y.1 = cs[d] := e
        rw [this] at h1
        have := hok.inj h1 hcd
        omega⟩
    · rw [if_neg q] at h1 h2
      exact ⟨⟨y, mem_zip_at.mpr ⟨i + 1, h1, h2⟩, rfl, hlt⟩, fun e => by
        have : y.1 = cs[d] := e
        rw [this] at h1
        have := hok.inj h1 hcd
        omega⟩
/-! where a START sets the file -/
theorem rowLt_before {a b : By × Int} : rowLt (a.1, a.2 - 1) b = !rowLt b a := by
  rw [Bool.eq_iff_iff]
  simp only [rowLt, Bool.or_eq_true, Bool.and_eq_true, decide_eq_true_eq, Bool.not_eq_true', Bool.or_eq_false_iff, Bool.and_eq_false_iff, decide_eq_false_iff_not]
  constructor
  · rintro (h | ⟨h1, h2⟩)
    · exact ⟨blt_asymm h, .inl fun e => by rw [e, blt_irrefl] at h; cases h⟩
    · exact ⟨by rw [h1, blt_irrefl], .inr (by omega)⟩
  · rintro ⟨h1, h2⟩
    cases q : blt a.1 b.1 with
    | true => exact .inl rfl
    | false =>
      have e := blt_total q h1
      refine .inr ⟨e, ?_⟩
      rcases h2 with h2 | h2
      · exact absurd e.symm h2
      · omega
section
variable {k : Int × Int × Bool} {cs : List By} {S : List Int} {p : List Nat} {i a : Nat}
theorem LeftOk.start (hl : S.length = cs.length) (hp : p.Perm (List.range cs.length)) (hs : (p.map (kkey k cs S)).Pairwise (fun a b => rowLt a b = true)) (ha : p[a]? = some i) :
    LeftOk k ((kkey k cs S i).1, (kkey k cs S i).2 - 1) (cs.zip S) ((p.drop a).map fun j => row3 k (cs.getD j #[], S.getD j 0)) := by
  have hs' : p.Pairwise (fun a b => rowLt (kkey k cs S a) (kkey k cs S b) = true) := List.pairwise_map.mp hs
  have hal := (List.getElem?_eq_some_iff.mp ha).1
  have hd : p.drop a = i :: p.drop (a + 1) := by
    rw [List.drop_eq_getElem_cons hal]
    congr 1
    exact (List.getElem?_eq_some_iff.mp ha).2
  have hsplit : p = p.take a ++ (i :: p.drop (a + 1)) := by rw [← hd, List.take_append_drop]
  have hs2 := hs'
  rw [hsplit, List.pairwise_append] at hs2
  obtain ⟨h1, h2, h3⟩ := hs2
  obtain ⟨h4, h5⟩ := List.pairwise_cons.mp h2
  have hlt : ∀ j ∈ p, j < cs.length := lt_of_pick hp
  refine ⟨?_, fun x => ?_⟩
  · rw [hd]; exact List.pairwise_map.mpr h2
  · rw [List.mem_map]
    constructor
    · rintro ⟨j, hj, rfl⟩
      have hjp : j ∈ p := List.mem_of_mem_drop hj
      refine ⟨_, zip_in hl (hlt j hjp), rfl, ?_⟩
      show rowLt _ (kkey k cs S j) = true
      rw [rowLt_before]
      rw [hd] at hj
      rcases List.mem_cons.mp hj with rfl | hj
      · rw [rowLt_irrefl]; rfl
      · rw [rowLt_asymm (h4 j hj)]; rfl
    · rintro ⟨y, hy, rfl, hlt2⟩
      obtain ⟨j, hj, rfl⟩ := zip_out hy
      refine ⟨j, ?_, rfl⟩
      have hjp : j ∈ p := hp.mem_iff.mpr (List.mem_range.mpr hj)
      rw [hsplit] at hjp
      rcases List.mem_append.mp hjp with q | q
      · have h6 := h3 j q i List.mem_cons_self
        have h7 : rowLt _ (kkey k cs S j) = true := hlt2
        rw [rowLt_before, h6] at h7
        cases h7
      · rw [hd]; exact q
/-- the first that is so is where START stands -/
theorem first_so {pz : Nat → Bool} {sat : Nat → Bool} {r : List Nat} (hp : p.Perm (List.range cs.length)) (hs : (p.map (kkey k cs S)).Pairwise (fun a b => rowLt a b = true))
    (hi : i < cs.length) (hsi : sat i = true) (hmin : ∀ j, j < cs.length → sat j = true → j = i ∨ rowLt (kkey k cs S i) (kkey k cs S j) = true)
    (hpz : ∀ b j, p[b]? = some j → pz b = sat j) (hso : (List.range p.length).filter pz = a :: r) : p[a]? = some i := by
  have hs' : p.Pairwise (fun a b => rowLt (kkey k cs S a) (kkey k cs S b) = true) := List.pairwise_map.mp hs
  have ham : a ∈ (List.range p.length).filter pz := by rw [hso]; exact List.mem_cons_self
  obtain ⟨ha1, ha2⟩ := List.mem_filter.mp ham
  have hal := List.mem_range.mp ha1
  have hpa : p[a]? = some p[a] := List.getElem?_eq_getElem hal
  rw [hpz a _ hpa] at ha2
  have hlt : p[a] < cs.length := lt_of_pick hp _ (List.getElem_mem _)
  rcases hmin _ hlt ha2 with e | e
  · rw [hpa, e]
  · exfalso
    obtain ⟨b, hb, hbi⟩ := List.mem_iff_getElem.mp (hp.mem_iff.mpr (List.mem_range.mpr hi))
    have hpb : pz b = true := by rw [hpz b i (by rw [List.getElem?_eq_getElem hb, hbi])]; exact hsi
    have hbm : b ∈ a :: r := by rw [← hso]; exact List.mem_filter.mpr ⟨List.mem_range.mpr hb, hpb⟩
    have hsr : (a :: r).Pairwise (· < ·) := by rw [← hso]; exact List.pairwise_lt_range.filter _
    have hab : a < b := by
      rcases List.mem_cons.mp hbm with e2 | hm
      · subst e2; rw [hbi, rowLt_irrefl] at e; cases e
      · exact (List.pairwise_cons.mp hsr).1 b hm
    have := List.pairwise_iff_getElem.mp hs' a b hal hb hab
    rw [hbi, rowLt_asymm e] at this
    cases this
theorem none_so {pz : Nat → Bool} {sat : Nat → Bool} (hp : p.Perm (List.range cs.length)) (hpz : ∀ b j, p[b]? = some j → pz b = sat j) (hn : ∀ j, j < cs.length → sat j = false) : (List.range p.length).filter pz = [] := by
  rw [List.filter_eq_nil_iff]
  intro b hb
  have hbl := List.mem_range.mp hb
  rw [hpz b _ (List.getElem?_eq_getElem hbl), hn _ (lt_of_pick hp _ (List.getElem_mem _))]
  decide
theorem some_so {pz : Nat → Bool} {sat : Nat → Bool} (hp : p.Perm (List.range cs.length)) (hi : i < cs.length) (hsi : sat i = true) (hpz : ∀ b j, p[b]? = some j → pz b = sat j) : (List.range p.length).filter pz ≠ [] := fun e => by
  obtain ⟨b, hb, hbi⟩ := List.mem_iff_getElem.mp (hp.mem_iff.mpr (List.mem_range.mpr hi))
  have : b ∈ (List.range p.length).filter pz := List.mem_filter.mpr ⟨List.mem_range.mpr hb, by rw [hpz b i (by rw [List.getElem?_eq_getElem hb, hbi])]; exact hsi⟩
  rw [e] at this
  cases this
end
theorem isso_sat {op : Str} {key b : By} (h : op = Str.ofString "=" ∨ op = Str.ofString ">" ∨ op = Str.ofString ">=") :
    (if op = Str.ofString "=" then decide (pre key b = key) else if op = Str.ofString ">" then blt key (pre key b) else !blt (pre key b) key) = sat op key b := by
  have n1 : Str.ofString ">" ≠ Str.ofString "=" := by decide
  have n2 : Str.ofString ">=" ≠ Str.ofString "=" := by decide
  have n3 : Str.ofString ">=" ≠ Str.ofString ">" := by decide
  rcases h with rfl | rfl | rfl
  · simp [sat, Ne.symm n1]
  · simp [sat, n1]
  · simp only [sat, n2, n3, if_false, decide_false, Bool.not_false, Bool.true_and]
    by_cases e : pre key b = key
    · simp [e, blt_irrefl]
    · cases q : blt key (pre key b) with
      | true => simp [blt_asymm q]
      | false =>
        cases q2 : blt (pre key b) key with
        | true => simp [e]
        | false => exact absurd (blt_total q2 q) e

theorem All2.map_right' {α β γ : Type} {P : α → β → Prop} {R : α → γ → Prop} {vs : List α} {ks : List β} {g : β → γ} (h : All2 P vs ks) (hp : ∀ v k, k ∈ ks → P v k → R v (g k)) : All2 R vs (ks.map g) :=
  ⟨by rw [List.length_map]; exact h.len, fun i v k a b => by
    rw [List.getElem?_map] at b
    obtain ⟨j, e, rfl⟩ := Option.map_eq_some_iff.mp b
    exact hp _ _ (List.mem_of_getElem? e) (h.at_ i v j a e)⟩
abbrev SS (n : Nat) : List Int := (List.range n).map fun (i : Nat) => (i : Int)
theorem SS_len {n : Nat} : (SS n).length = n := by simp
theorem SS_get {n i : Nat} (h : i < n) : (SS n).getD i 0 = (i : Int) := by simp [h]
theorem SS_nodup {n : Nat} : (SS n).Nodup := by
  refine List.pairwise_map.mpr (List.nodup_range.imp fun h e => h ?_)
  exact Int.ofNat.inj e
theorem kkey_SS {k : Int × Int × Bool} {cs : List By} {i : Nat} (h : i < cs.length) : rk (row3 k (cs.getD i #[], (i : Int))) = kkey k cs (SS cs.length) i := by
  show (_, _) = (_, _)
  rw [SS_get h]; rfl
theorem rows_keys {k : Int × Int × Bool} {cs : List By} {led nw : Led} {ys : List Value} (h : All2 (fun v (i : Nat) => XRow led v (row3 k (cs.getD i #[], (i : Int)))) ys (List.range cs.length)) (hs : ∀ p ∈ led, p ∈ nw) :
    All2 (RowIn nw) ys ((List.range cs.length).map (kkey k cs (SS cs.length))) :=
  ⟨by rw [h.len, List.length_map], fun i v x a b => by
    rw [List.getElem?_map] at b
    obtain ⟨j, e, rfl⟩ := Option.map_eq_some_iff.mp b
    have hj : j < cs.length := List.mem_range.mp (List.mem_of_getElem? e)
    rw [← kkey_SS hj]
    exact ((h.at_ i v j a e).mono hs).row⟩
theorem rows_pick {k : Int × Int × Bool} {cs : List By} {led : Led} {ys : List Value} {p : List Nat} (h : All2 (fun v (i : Nat) => XRow led v (row3 k (cs.getD i #[], (i : Int)))) ys (List.range cs.length)) (hp : p.Perm (List.range cs.length)) :
    All2 (XRow led) (p.map fun i => ys.getD i Value.none) (p.map fun j => row3 k (cs.getD j #[], (SS cs.length).getD j 0)) := by
  have h1 := h.pick (dv := Value.none) (dk := 0) (p := p) (fun i hi => by rw [List.length_range]; exact lt_of_pick hp i hi)
  rw [range_pick hp] at h1
  refine h1.map_right' fun v j hj hr => ?_
  rw [SS_get (lt_of_pick hp j hj)]
  exact hr
theorem key_box {o : Obj} {b : By} {t : Tok} (h : o.data = .cell (some (.bytes b t))) (hz : b.size ≤ 10) : ∃ key : By, o.data = .cell (some (.bytes key t)) ∧ key.size ≤ 10 := ⟨b, h, hz⟩
/-- is the row at this place so -/
def soAt (k : Int × Int × Bool) (cs : List By) (op : Str) (key : By) (p : List Nat) (b : Nat) : Bool := match p[b]? with | some j => sat op key (wor k (cs.getD j #[])) | none => false
theorem soAt_at {k : Int × Int × Bool} {cs : List By} {op : Str} {key : By} {p : List Nat} {b j : Nat} (h : p[b]? = some j) : soAt k cs op key p b = sat op key (kkey k cs (SS cs.length) j).1 := by
  unfold soAt; rw [h]; rfl
theorem row_size {k : Int × Int × Bool} {cs : List By} (hok : CsOk cs) (j : Nat) (s : Int) : (row3 k (cs.getD j #[], s)).1.size < 10000 := by
  show (wor k (cs.getD j #[])).size < 10000
  have h1 := wor_size k (cs.getD j #[])
  have h2 : (cs.getD j #[]).size < 10000 := by
    rw [List.getD_eq_getElem?_getD]
    cases e : cs[j]? with
    | none => exact Nat.le_of_ble_eq_true rfl
    | some b => rw [Option.getD_some, hok.size b (List.mem_of_getElem? e)]; decide
  omega
theorem EtEnd.of {h₀ : Heap} {L : Addr} {m : Vars} {nx : Led} {s' : Shared} {b ok : Bool} {yes : Shared → Prop} {h' : Heap} {tk' : Nat} (e : ok = b) (F : Fr h₀ L h' m) (N : News h₀ L h' nx) (hy : b = true → yes { s' with heap := h', toks := tk' }) :
    EtEnd h₀ L m nx s' (b = false) yes ok { s' with heap := h', toks := tk' } := by
  subst e
  cases ok with
  | true => exact EtEnd.yes (hy rfl)
  | false => exact EtEnd.no F N rfl
theorem news_drop {h₀ : Heap} {L : Addr} {h : Heap} {a : Addr × Obj} {tl r : Led} (N : News h₀ L h (a :: (tl ++ r))) : News h₀ L h (a :: r) := fun p hp => N p ((List.mem_cons.mp hp).elim (fun e => e ▸ List.mem_cons_self) fun q => List.mem_cons_of_mem _ (List.mem_append_right _ q))

theorem cutr {M : Model} {A : Around} {E : Value → Shared → Prop} {Q : Flow → Shared → Prop} {s : Shared} {stmts : List Stmt} {env : Env} (G : Shared → Prop) (h : G s) (k : ∀ s', G s' → wpAny M A (execs stmts env) Q E s') : wpAny M A (execs stmts env) Q E s := k s h
theorem fr_put {h₀ : Heap} {L : Addr} {h : Heap} {m : Vars} {x : Str} {v : Value} (F : Fr h₀ L h m) (e : m x = some v) : Fr h₀ L h (fun z => if z = x then some v else m z) := by
  have : (fun z => if z = x then some v else m z) = m := by
    funext z
    by_cases q : z = x
    · rw [if_pos q, q, e]
    · rw [if_neg q]
  rw [this]; exact F
theorem news_front {h₀ : Heap} {L : Addr} {h : Heap} {l : Led} {p : Addr × Obj} (N : News h₀ L h l) (i : Nat) (e : l[i]? = some p) : News h₀ L h (p :: l.eraseIdx i) := fun q hq => by
  rcases List.mem_cons.mp hq with rfl | hq
  · exact N _ (List.mem_of_getElem? e)
  · exact N _ (List.mem_of_mem_eraseIdx hq)
/-- what stands when the rows are sorted and the places that are so are told -/
inductive Half (h₀ : Heap) (L : Addr) (s : Shared) : Shared → Prop
  | mk {wi : Int} {k : Int × Int × Bool} {h : Heap} {tk : Nat} {D9 D8 dx st c bag o kl at_ : Addr} {mb : Vars} {H : Nat → Int} {T : Nat → Tok} {md ac op : Str} {key : By} {cs : List By} {vc vk ys rv sv : List Value} {og om oo ok : Obj} {t1 tm ta tm2 ta2 tb td te tf tg top tkey t2 bt : Tok} {ns : Value} {nst nc bn nk na c8 : Nat} {bN : Int} {R : Led} {p8 : List Nat}
    (F : Fr h₀ L h (fun z => if z = Str.ofString "so" then some (.ref D9) else if z = Str.ofString "rows" then some (.ref D8) else if z = Str.ofString "which" then some (.int wi t1) else if z = Str.ofString "mode" then some (.str md tm) else if z = Str.ofString "access" then some (.str ac ta) else if z = Str.ofString "content" then some (.ref c) else if z = Str.ofString "bag" then some (.ref bag) else mb z))
    (N : News h₀ L h ((dx, kfd H T c (.str md tm2) (.str ac ta2) kl st ns (.int 0 td) at_ (.bool false) (.int (-1) te) (.bytes #[] tf)) :: (st, listOf ys.toArray nst) :: (c, listOf vc.toArray nc) :: (bag, listOf #[.int bN bt] bn) :: (L + 1 + 1 + 1 + 1 + 1, og) :: R))
    (hwk : (wi = 0 ∧ k = (0, 3, false)) ∨ (wi = 1 ∧ k = (3, 1, true)))
    (hog : ∃ v, og.data = .cell v) (hom : (L + 1, om) ∈ R) (homd : om.data = .cell (some (.ref o))) (hoo : (L + 1 + 1, oo) ∈ R) (hood : oo.data = .cell (some (.str op top))) (hok : (L + 1 + 1 + 1, ok) ∈ R) (hokd : ok.data = .cell (some (.bytes key tkey)))
    (hop : op = Str.ofString "=" ∨ op = Str.ofString ">" ∨ op = Str.ofString ">=") (hksz : key.size ≤ 10)
    (ho : (o, instObj 208 dx) ∈ R) (hkl : (kl, listOf vk.toArray nk) ∈ R) (hk : All2 (KeyIn R) vk [(0, 3, false), (3, 1, true)]) (hat : (at_, tupOf #[.bytes #[] tg, .int (-1) t2] na) ∈ R) (hS : All2 (StIn 2 R) ys (SS cs.length))
    (hcs : All2 IsB vc cs) (hlen : cs.length < 64) (hcok : CsOk cs) (hmd : md = Str.ofString "i-o" ∨ md = Str.ofString "input") (hac : ac = Str.ofString "dynamic" ∨ ac = Str.ofString "sequential")
    (hD9 : (D9, LCg.lst sv) ∈ R) (hsv : All2 (fun v (i : Nat) => ∃ t, v = Value.int (i : Int) t) sv ((List.range cs.length).filter (soAt k cs op key p8)))
    (hD8 : (D8, listOf rv.toArray c8) ∈ R) (hX : All2 (XRow R) rv (p8.map fun j => row3 k (cs.getD j #[], (SS cs.length).getD j 0))) (hp8 : p8.Perm (List.range cs.length)) (hpw8 : (p8.map (kkey k cs (SS cs.length))).Pairwise (fun a b => rowLt a b = true))
    (n1 : dx ≠ st) (n2 : dx ≠ c) (n3 : dx ≠ bag) (n4 : dx ≠ L + 1 + 1 + 1 + 1 + 1) (n5 : st ≠ c) (n6 : st ≠ bag) (n7 : st ≠ L + 1 + 1 + 1 + 1 + 1) (n8 : c ≠ bag) (n9 : c ≠ L + 1 + 1 + 1 + 1 + 1) (n10 : bag ≠ L + 1 + 1 + 1 + 1 + 1)
    (a1 : ∀ p ∈ R, p.1 ≠ dx) (a2 : ∀ p ∈ R, p.1 ≠ st) (a3 : ∀ p ∈ R, p.1 ≠ c) (a4 : ∀ p ∈ R, p.1 ≠ bag) (a5 : ∀ p ∈ R, p.1 ≠ L + 1 + 1 + 1 + 1 + 1) : Half h₀ L s { s with heap := h, toks := tk }
/-- what stands while the file is read: the content cs with the stamps S, left to read X -/
inductive Rd (h₀ : Heap) (L : Addr) (s : Shared) : Shared → Prop
  | mk {wi wr : Int} {k kr : Int × Int × Bool} {h : Heap} {tk : Nat} {D9 DL dx st c bag o kl at_ : Addr} {mb : Vars} {H : Nat → Int} {T : Nat → Tok} {md ac : Str} {cs : List By} {S : List Int} {vc vk ys lv sv : List Value} {og om : Obj} {t1 tm ta tm2 ta2 td te tg t2 bt : Tok} {ns hi : Value} {nst nc bn nk na nl : Nat} {bN : Int} {R : Led} {pos : By × Int} {X : List Row3} {nwb : Bool}
    (F : Fr h₀ L h (fun z => if z = Str.ofString "left" then some (.ref DL) else if z = Str.ofString "so" then some (.ref D9) else if z = Str.ofString "which" then some (.int wi t1) else if z = Str.ofString "mode" then some (.str md tm) else if z = Str.ofString "access" then some (.str ac ta) else if z = Str.ofString "content" then some (.ref c) else if z = Str.ofString "bag" then some (.ref bag) else mb z))
    (N : News h₀ L h ((dx, kfd H T c (.str md tm2) (.str ac ta2) kl st ns (.int wr td) at_ (.bool nwb) (.int (-1) te) hi) :: (st, listOf ys.toArray nst) :: (c, listOf vc.toArray nc) :: (bag, listOf #[.int bN bt] bn) :: (L + 1 + 1 + 1 + 1 + 1, og) :: (DL, listOf lv.toArray nl) :: R))
    (hwk : (wi = 0 ∧ k = (0, 3, false)) ∨ (wi = 1 ∧ k = (3, 1, true))) (hwr : (wr = 0 ∧ kr = (0, 3, false)) ∨ (wr = 1 ∧ kr = (3, 1, true)))
    (hog : ∃ v, og.data = .cell v) (hom : (L + 1, om) ∈ R) (homd : om.data = .cell (some (.ref o)))
    (ho : (o, instObj 208 dx) ∈ R) (hkl : (kl, listOf vk.toArray nk) ∈ R) (hk : All2 (KeyIn R) vk [(0, 3, false), (3, 1, true)]) (hat : (at_, tupOf #[.bytes pos.1 tg, .int pos.2 t2] na) ∈ R) (hS : All2 (StIn 2 R) ys S) (hSl : S.length = cs.length) (hSn : S.Nodup)
    (hcs : All2 IsB vc cs) (hlen : cs.length < 64) (hcok : CsOk cs) (hmd : md = Str.ofString "i-o" ∨ md = Str.ofString "input") (hac : ac = Str.ofString "dynamic" ∨ ac = Str.ofString "sequential")
    (hD9 : (D9, LCg.lst sv) ∈ R) (hsv : decide (sv.toArray.size = 0) = nwb) (hX : All2 (XRow R) lv X) (hXl : X.length < 64)
    (hgo : nwb = false → wr = wi ∧ kr = k ∧ LeftOk k pos (cs.zip S) X) (hno : nwb = true → X = [])
    (n1 : dx ≠ st) (n2 : dx ≠ c) (n3 : dx ≠ bag) (n4 : dx ≠ L + 1 + 1 + 1 + 1 + 1) (n5 : st ≠ c) (n6 : st ≠ bag) (n7 : st ≠ L + 1 + 1 + 1 + 1 + 1) (n8 : c ≠ bag) (n9 : c ≠ L + 1 + 1 + 1 + 1 + 1) (n10 : bag ≠ L + 1 + 1 + 1 + 1 + 1)
    (d1 : DL ≠ dx) (d2 : DL ≠ st) (d3 : DL ≠ c) (d4 : DL ≠ bag) (d5 : DL ≠ L + 1 + 1 + 1 + 1 + 1)
    (a1 : ∀ p ∈ R, p.1 ≠ dx) (a2 : ∀ p ∈ R, p.1 ≠ st) (a3 : ∀ p ∈ R, p.1 ≠ c) (a4 : ∀ p ∈ R, p.1 ≠ bag) (a5 : ∀ p ∈ R, p.1 ≠ L + 1 + 1 + 1 + 1 + 1) (a6 : ∀ p ∈ R, p.1 ≠ DL) : Rd h₀ L s { s with heap := h, toks := tk }
theorem slice_from (l : List Value) (a : Nat) : (slicePick l.toArray (some (a : Int)) none none).toList = l.drop a := by
  rw [slicePick_from']
theorem All2.drop {α β : Type} {P : α → β → Prop} {vs : List α} {ks : List β} (h : All2 P vs ks) (n : Nat) : All2 P (vs.drop n) (ks.drop n) :=
  ⟨by rw [List.length_drop, List.length_drop, h.len], fun i v k a b => by
    rw [List.getElem?_drop] at a b
    exact h.at_ _ v k a b⟩
/-- what the loop that takes records out keeps -/
inductive DJ (gon dx st c bag kl at_ : Addr) (H : Nat → Int) (T : Nat → Tok) (mdv acv ns wh nw hi : Value) (k : Int × Int × Bool) (pos : By × Int) (nwb : Bool) (R : Led) : Option Value → Led → Prop
  | mk {DL : Addr} {cs : List By} {S : List Int} {vc ys lv : List Value} {og : Obj} {te bt : Tok} {nst nc bn nl : Nat} {bN : Int} {X : List Row3}
    (hog : ∃ v, og.data = .cell v) (hS : All2 (StIn 2 R) ys S) (hSl : S.length = cs.length) (hSn : S.Nodup) (hcs : All2 IsB vc cs) (hlen : cs.length < 64) (hcok : CsOk cs) (hX : All2 (XRow R) lv X) (hXl : X.length < 64)
    (hgo : nwb = false → LeftOk k pos (cs.zip S) X) (hno : nwb = true → X = []) (d1 : DL ≠ dx) (d2 : DL ≠ st) (d3 : DL ≠ c) (d4 : DL ≠ bag) (d5 : DL ≠ gon) :
    DJ gon dx st c bag kl at_ H T mdv acv ns wh nw hi k pos nwb R (some (.ref DL)) [(c, listOf vc.toArray nc), (st, listOf ys.toArray nst), (dx, kfd H T c mdv acv kl st ns wh at_ nw (.int (-1) te) hi), (bag, listOf #[.int bN bt] bn), (gon, og), (DL, listOf lv.toArray nl)]
theorem Apart.head {p : Addr × Obj} {mu ro : Led} (h : Apart (p :: mu) ro) : (∀ q ∈ ro, q.1 ≠ p.1) ∧ Apart mu ro := ⟨h p List.mem_cons_self, fun x hx => h x (List.mem_cons_of_mem _ hx)⟩
theorem Apart.cons {p : Addr × Obj} {mu ro : Led} (h : ∀ q ∈ ro, q.1 ≠ p.1) (k : Apart mu ro) : Apart (p :: mu) ro := fun x hx q hq => by
  rcases List.mem_cons.mp hx with rfl | hx
  · exact h q hq
  · exact k x hx q hq
theorem Apart.nil {ro : Led} : Apart [] ro := fun _ h => nomatch h
theorem vc_at {vc : List Value} {cs : List By} (h : All2 IsB vc cs) {j : Nat} (hj : (j : Int) < (vc.length : Int)) : ∃ b t, vc[((j : Nat) : Int).toNat]? = some (.bytes b t) ∧ cs[j]? = some b := by
  have hj' : j < cs.length := by have := h.len; omega
  obtain ⟨v, hv, t, rfl⟩ := h.get (List.getElem?_eq_getElem hj')
  exact ⟨cs[j], t, by simpa using hv, List.getElem?_eq_getElem hj'⟩
theorem CsOk.pick_of {cs : List By} (h : CsOk cs) {i d : Nat} {b : By} (hd : cs[d]? = some b) (e : (cs[i]?).map (wor (0, 3, false)) = some (KBy.picked b none (some 3))) : i = d := by
  have h1 := (List.getElem?_eq_some_iff.mp hd)
  refine h.pick_at h1.1 ?_
  rw [h1.2, ← e]
  have : (wor (0, 3, false)) = fun x => KBy.picked x none (some 3) := funext fun x => wor03 x
  rw [this]
theorem CsOk.pick_in {cs : List By} {d : Nat} {b : By} (hd : cs[d]? = some b) (hn : ∀ x ∈ cs, wor (0, 3, false) x ≠ KBy.picked b none (some 3)) : False := hn b (List.mem_of_getElem? hd) (wor03 b)
theorem All2.erase {α β : Type} {P : α → β → Prop} {vs : List α} {ks : List β} (h : All2 P vs ks) (n : Nat) : All2 P (vs.eraseIdx n) (ks.eraseIdx n) :=
  ⟨by rw [List.length_eraseIdx, List.length_eraseIdx, h.len], fun i v k a b => by
    rw [List.getElem?_eraseIdx] at a b
    by_cases q : i < n
    · rw [if_pos q] at a b; exact h.at_ _ v k a b
    · rw [if_neg q] at a b; exact h.at_ _ v k a b⟩
theorem LeftOk.del' {k : Int × Int × Bool} {pos : By × Int} {cs : List By} {S : List Int} {X : List Row3} {d : Nat} {b : By} (h : LeftOk k pos (cs.zip S) X) (hok : CsOk cs) (hd : cs[d]? = some b) : LeftOk k pos ((cs.eraseIdx d).zip (S.eraseIdx d)) (X.filter fun x => !decide (x.2.2 = b)) := by
  have h1 := (List.getElem?_eq_some_iff.mp hd)
  have := h.del hok h1.1
  rw [h1.2] at this
  exact this
theorem len_erase {α β : Type} {a : List α} {b : List β} (h : a.length = b.length) (n : Nat) : (a.eraseIdx n).length = (b.eraseIdx n).length := by rw [List.length_eraseIdx, List.length_eraseIdx, h]
theorem nodup_erase {α : Type} {a : List α} (h : a.Nodup) (n : Nat) : (a.eraseIdx n).Nodup := List.Pairwise.sublist (List.eraseIdx_sublist ..) h
theorem len_erase_lt {α : Type} {a : List α} {n m : Nat} (h : a.length < m) : (a.eraseIdx n).length < m := by
  have := (List.eraseIdx_sublist a n).length_le
  omega

local macro_rules | `(tactic| walk_at "subscriptTail Name Slice ref ref") => `(tactic| (k_here; (with_reducible show wpAny _ _ (subscriptTail _ (PySem.Expr.Slice _ _ none _) (Value.ref _) (Value.ref _)) _ _ _); k_dflt (refine' kmk_slice_lit ?F ?N ?l ?p ?q ?e ?_ ?s ?t ?z; (case F | N => k_asm); (case l => exact isL (by k_asm) (by k_mem)); (case p | q => constructor); (case e => exact slice_from _ _); (case s => with_unfolding_all rfl); (case t => kmk_pure); (case z => (rw [sizeLine_eq, List.size_toArray]; omega))); intro D' h' F' N' l1; (try k_lt l1); (try k_sweep)))

/-- what the loop that reads keeps -/
inductive RJ (dx c kl st : Addr) (H : Nat → Int) (T : Nat → Tok) (mdv acv ns wh hi : Value) (nwb : Bool) (k : Int × Int × Bool) (Z : List (By × Int)) (X : List Row3) (R : Led) (i : Nat) : Led → Prop
  | mk {at3 : Addr} {pos : By × Int} {rl : Value} {ex : Led} {tg t2 : Tok} {na : Nat} (hat : (at3, tupOf #[.bytes pos.1 tg, .int pos.2 t2] na) ∈ ex ++ R) (hgo : nwb = false → LeftOk k pos Z (X.drop i)) (hex : ∀ p ∈ ex, p.1 ≠ dx) :
    RJ dx c kl st H T mdv acv ns wh hi nwb k Z X R i ((dx, kfd H T c mdv acv kl st ns wh at3 (.bool nwb) rl hi) :: ex)
/-- what stands when all is read -/
inductive Fn (h₀ : Heap) (L : Addr) (s : Shared) : Shared → Prop
  | mk {wr : Int} {k : Int × Int × Bool} {h : Heap} {tk : Nat} {D9 dx st c o kl at_ : Addr} {mb : Vars} {H : Nat → Int} {T : Nat → Tok} {md ac : Str} {cs : List By} {S : List Int} {vc vk ys sv : List Value} {om : Obj} {tm2 ta2 td tg t2 : Tok} {ns rl hi : Value} {nst nc nk na : Nat} {R : Led} {pos : By × Int} {nwb : Bool}
    (F : Fr h₀ L h (fun z => if z = Str.ofString "so" then some (.ref D9) else mb z))
    (N : News h₀ L h ((dx, kfd H T c (.str md tm2) (.str ac ta2) kl st ns (.int wr td) at_ (.bool nwb) rl hi) :: R))
    (hwr : (wr = 0 ∧ k = (0, 3, false)) ∨ (wr = 1 ∧ k = (3, 1, true)))
    (hom : (L + 1, om) ∈ R) (homd : om.data = .cell (some (.ref o))) (hst : (st, listOf ys.toArray nst) ∈ R) (hc : (c, listOf vc.toArray nc) ∈ R)
    (ho : (o, instObj 208 dx) ∈ R) (hkl : (kl, listOf vk.toArray nk) ∈ R) (hk : All2 (KeyIn R) vk [(0, 3, false), (3, 1, true)]) (hat : (at_, tupOf #[.bytes pos.1 tg, .int pos.2 t2] na) ∈ R) (hS : All2 (StIn 2 R) ys S) (hSl : S.length = cs.length) (hSn : S.Nodup)
    (hcs : All2 IsB vc cs) (hlen : cs.length < 64) (hsz : ∀ b ∈ cs, b.size < 10000) (hmd : (decide (Str.ofString "input" = md) || decide (Str.ofString "i-o" = md)) = true) (hac : ac ≠ Str.ofString "random")
    (hD9 : (D9, LCg.lst sv) ∈ R) (hsv : decide (sv.toArray.size = 0) = nwb) (hgo : nwb = false → ∀ j, j < cs.length → rowLt pos (kkey k cs S j) = false) (a1 : ∀ p ∈ R, p.1 ≠ dx) : Fn h₀ L s { s with heap := h, toks := tk }
theorem CsOk.key0 {cs : List By} (h : CsOk cs) {f : Bool} {i : Nat} (hi : i < cs.length) : (wor (0, 3, f) (cs.getD i #[])).size = 3 := by
  have e : cs.getD i #[] = cs[i] := by simp [hi]
  have h4 := h.size cs[i] (List.getElem_mem _)
  rw [e, wor03, KBc.picked_eq]
  have h4' : cs[i].toList.length = 4 := h4
  simp only [Option.elim, List.drop_zero, Nat.sub_zero, List.size_toArray, List.length_take]
  have h5 : clipAt (Array.size cs[i]) 3 = 3 := by rw [h4]; rfl
  rw [h5, h4']; rfl
theorem CsOk.keyi {cs : List By} (h : CsOk cs) {f : Bool} {i j : Nat} (hi : i < cs.length) (hj : j < cs.length) (e : wor (0, 3, f) (cs.getD i #[]) = wor (0, 3, f) (cs.getD j #[])) : j = i := by
  have ei : cs.getD i #[] = cs[i] := by simp [hi]
  have ej : cs.getD j #[] = cs[j] := by simp [hj]
  rw [ei, ej, wor03, wor03] at e
  exact h.pick_at hi (by rw [List.getElem?_eq_getElem hj, Option.map_some, ← e])
/-- one reading, told by what is left -/
theorem LeftOk.turn {k : Int × Int × Bool} {pos : By × Int} {cs : List By} {S : List Int} {X : List Row3} {x : Row3} {i : Nat} {wi : Int} (h : LeftOk k pos (cs.zip S) (x :: X)) (hl : S.length = cs.length) (hok : CsOk cs) (hw : (wi = 0 ∧ k = (0, 3, false)) ∨ (wi = 1 ∧ k = (3, 1, true))) (hn : Nxt k cs S pos i) :
    LeftOk k (fat k cs S wi i) (cs.zip S) X ∧ x.2.2 = cs.getD i #[] ∧ fstat k cs S wi i = (if 0 < wi ∧ nextIs x.1 X = true then Str.ofString "02" else Str.ofString "00") := by
  have hx := h.head hl hn
  subst hx
  refine ⟨h.read hn.1 fun hw0 j hj => ?_, rfl, ?_⟩
  · rcases hw with ⟨rfl, rfl⟩ | ⟨rfl, rfl⟩
    · exact ⟨by rw [hok.key0 hn.1, hok.key0 hj], fun e => hok.keyi hn.1 hj e⟩
    · exact absurd (by decide) hw0
  · unfold fstat
    rw [h.later hl]
    rfl
theorem mid_assign {M : Model} {A : Around} {E : Value → Shared → Prop} {Q : Flow → Shared → Prop} {s : Shared} {st : Stmt} {rest : List Stmt} {env : Env} {h₀ : Heap} {L : Addr} {h : Heap} {m : Vars} {news : Led} (_F : Fr h₀ L h m) (_N : News h₀ L h news) (x : Str) (v : Value)
    (h1 : wpAny M A (exec st env) (fun f s' => f = .next ∧ ∃ h' tk', s' = { s with heap := h', toks := tk' } ∧ Fr h₀ L h' (fun y => if y = x then some v else m y) ∧ News h₀ L h' news) E s)
    (h2 : ∀ h' tk', Fr h₀ L h' (fun y => if y = x then some v else m y) → News h₀ L h' news → wpAny M A (execs rest env) Q E { s with heap := h', toks := tk' }) : wpAny M A (execs (st :: rest) env) Q E s := by
  refine wpAny_execs_cons (wpAny_mono h1 (fun f s' hq => ?_) fun _ _ e => e)
  obtain ⟨rfl, h', tk', rfl, F', N'⟩ := hq
  exact h2 h' tk' F' N'
theorem drop_next {X : List Row3} {i : Nat} {z : Row3} {w : By} (h : X[i + 1]? = some z) : nextIs w (X.drop (i + 1)) = decide (z.1 = w) := by
  have hi := (List.getElem?_eq_some_iff.mp h).1
  rw [List.drop_eq_getElem_cons hi, (List.getElem?_eq_some_iff.mp h).2]; rfl
theorem drop_last {X : List Row3} {i : Nat} {w : By} (h : X.length ≤ i + 1) : nextIs w (X.drop (i + 1)) = false := by
  rw [List.drop_eq_nil_of_le h]; rfl
theorem dbl_0 {P : Prop} [Decidable P] : decide ((0 : Int) < 0 ∧ P) = false := by simp
theorem dbl_1 {b : Bool} : decide ((0 : Int) < 1 ∧ b = true) = b := by simp
theorem idx_1 {i : Nat} : ((i : Int) + 1).toNat = i + 1 := by omega
section
variable {prog : Program} {w : World} {A : Around} {E : Value → Shared → Prop} {s : Shared} {h₀ : Heap} {L : Addr} {news : Led} {Q : Value → Shared → Prop} {a b : Addr}
theorem ne_same {x y : Str} {u v : By} {t1 t2 t3 t4 : Tok} {n n2 : Nat} (N : News h₀ L s.heap news) (ha : (a, tupOf #[.str x t1, .bytes u t2] n) ∈ news) (hb : (b, tupOf #[.str y t3, .bytes v t4] n2) ∈ news) (hu : A.units < cLine) (e1 : x = y) (e2 : u = v) (h : Q (.bool false) s) :
    wpAny (model prog w) A (compareOp .NotEq (.ref a) (.ref b)) Q E s :=
  ne_pair N ha hb hu (eqAt_str _ _ _ _ _ _) (eqAt_by _ _ _ _ _ _) (by rw [decide_eq_true e1, decide_eq_true e2]; exact h)
end
theorem LeftOk.all {k : Int × Int × Bool} {pos : By × Int} {cs : List By} {S : List Int} (h : LeftOk k pos (cs.zip S) []) (hl : S.length = cs.length) : ∀ j, j < cs.length → rowLt pos (kkey k cs S j) = false := fun j hj => by
  cases q : rowLt pos (kkey k cs S j) with
  | false => rfl
  | true => exact nomatch (h.mem (row3 k (cs.getD j #[], S.getD j 0))).mpr ⟨_, zip_in hl hj, rfl, q⟩
theorem led_pack {h₀ : Heap} {L : Addr} {h : Heap} {p : Addr × Obj} {l : Led} (N : News h₀ L h (p :: l)) : ∃ r, r = l ∧ News h₀ L h (p :: r) := ⟨l, rfl, N⟩
theorem led_at {r l : Led} {p : Addr × Obj} (e : r = l) (i : Nat) (h : l[i]? = some p) : p ∈ r := e ▸ List.mem_of_getElem? h
theorem off3_ne {I C D : Addr} {l : Led} {d : Addr} {o : Obj} (h : LCg.Off3 I C D ((d, o) :: l)) : I ≠ d ∧ C ≠ d ∧ D ≠ d := ⟨Ne.symm h.1.1, Ne.symm h.1.2.1, Ne.symm h.1.2.2⟩
section
open PySem.SeqAt
variable {prog : Program} {w : World} {A : Around} {E : Value → Shared → Prop} {s : Shared} {h₀ : Heap} {L : Addr} {news : Led} {Q : Value → Shared → Prop} {a b a1 b1 a2 b2 : Addr}
theorem tup_same {x : Str} {u : By} {t1 t2 t3 t4 : Tok} {n n2 : Nat} (N : News h₀ L s.heap news) (ha : (a, tupOf #[.str x t1, .bytes u t2] n) ∈ news) (hb : (b, tupOf #[.str x t3, .bytes u t4] n2) ∈ news) (hu : A.units < cLine) : EqAt A s (.ref a) (.ref b) true := by
  by_cases e : a = b
  · subst e; exact EqAt.same _
  · refine EqAt.of_refs e ?_
    have := RcAt.tuples (A := A) (e := fun _ => true) (isT N ha) (isT N hb) hu (fun j h1 h2 => by
      match j, h1 with
      | 0, _ => exact (decide_eq_true (rfl : x = x)) ▸ eqAt_str _ _ x x t1 t3
      | 1, _ => exact (decide_eq_true (rfl : u = u)) ▸ eqAt_by _ _ u u t2 t4)
    exact this
theorem eq_rows1 {x1 : Str} {u1 : By} {t1 t2 t3 t4 : Tok} {m1 m2 n n2 : Nat} (N : News h₀ L s.heap news) (ha : (a, listOf #[.ref a1] n) ∈ news) (hb : (b, listOf #[.ref b1] n2) ∈ news) (ha1 : (a1, tupOf #[.str x1 t1, .bytes u1 t2] m1) ∈ news) (hb1 : (b1, tupOf #[.str x1 t3, .bytes u1 t4] m2) ∈ news)
    (hu : A.units + 1 < cLine) (h : Q (.bool true) s) : wpAny (model prog w) A (compareOp .Eq (.ref a) (.ref b)) Q E s := by
  refine eq_listAt (e := fun _ => true) (isL N ha) (isL N hb) rfl (Nat.lt_of_succ_lt hu) (fun j h1 h2 => ?_) h
  match j, h1 with
  | 0, _ => exact tup_same (A := A.in1) N ha1 hb1 hu
theorem eq_rows2 {x1 x2 : Str} {u1 u2 : By} {t1 t2 t3 t4 t5 t6 t7 t8 : Tok} {m1 m2 m3 m4 n n2 : Nat} (N : News h₀ L s.heap news) (ha : (a, listOf #[.ref a1, .ref a2] n) ∈ news) (hb : (b, listOf #[.ref b1, .ref b2] n2) ∈ news) (ha1 : (a1, tupOf #[.str x1 t1, .bytes u1 t2] m1) ∈ news) (hb1 : (b1, tupOf #[.str x1 t3, .bytes u1 t4] m2) ∈ news)
    (ha2 : (a2, tupOf #[.str x2 t5, .bytes u2 t6] m3) ∈ news) (hb2 : (b2, tupOf #[.str x2 t7, .bytes u2 t8] m4) ∈ news) (hu : A.units + 1 < cLine) (h : Q (.bool true) s) : wpAny (model prog w) A (compareOp .Eq (.ref a) (.ref b)) Q E s := by
  refine eq_listAt (e := fun _ => true) (isL N ha) (isL N hb) rfl (Nat.lt_of_succ_lt hu) (fun j h1 h2 => ?_) h
  match j, h1 with
  | 0, _ => exact tup_same (A := A.in1) N ha1 hb1 hu
  | 1, _ => exact tup_same (A := A.in1) N ha2 hb2 hu
end

/-- what stands when the file is made: the cells of the law's own words ahead of an opaque rest -/
inductive Mid (h₀ : Heap) (L o : Addr) (s : Shared) : Shared → Prop
  | mk {h : Heap} {tk : Nat} {dx st c bag kl at_ : Addr} {mb : Vars} {H : Nat → Int} {T : Nat → Tok} {md ac : Str} {cs : List By} {vc vk ys : List Value} {om oo ok os og : Obj} {tm ta tm2 ta2 td te tf tg t2 bt : Tok} {ns : Value} {nst nc bn nk na : Nat} {bN : Int} {R : Led}
    (F : Fr h₀ L h (fun z => if z = Str.ofString "mode" then some (.str md tm) else if z = Str.ofString "access" then some (.str ac ta) else if z = Str.ofString "content" then some (.ref c) else if z = Str.ofString "bag" then some (.ref bag) else mb z))
    (N : News h₀ L h ((dx, kfd H T c (.str md tm2) (.str ac ta2) kl st ns (.int 0 td) at_ (.bool false) (.int (-1) te) (.bytes #[] tf)) :: (st, listOf ys.toArray nst) :: (c, listOf vc.toArray nc) :: (bag, listOf #[.int bN bt] bn) :: (L + 1, om) :: (L + 1 + 1, oo) :: (L + 1 + 1 + 1, ok) :: (L + 1 + 1 + 1 + 1, os) :: (L + 1 + 1 + 1 + 1 + 1, og) :: R))
    (hom : ∃ v, om.data = .cell v) (hoo : ∃ v, oo.data = .cell v) (hok : ∃ v, ok.data = .cell v) (hos : ∃ v, os.data = .cell v) (hog : ∃ v, og.data = .cell v)
    (ho : (o, instObj 208 dx) ∈ R) (hkl : (kl, listOf vk.toArray nk) ∈ R) (hk : All2 (KeyIn R) vk [(0, 3, false), (3, 1, true)]) (hat : (at_, tupOf #[.bytes #[] tg, .int (-1) t2] na) ∈ R) (hS : All2 (StIn 2 R) ys (SS cs.length))
    (hcs : All2 IsB vc cs) (hlen : cs.length < 64) (hcok : CsOk cs) (hmd : md = Str.ofString "i-o" ∨ md = Str.ofString "input") (hac : ac = Str.ofString "dynamic" ∨ ac = Str.ofString "sequential")
    (n1 : dx ≠ st) (n2 : dx ≠ c) (n3 : dx ≠ bag) (n4 : st ≠ c) (n5 : st ≠ bag) (n6 : c ≠ bag) (n7 : dx ≠ L + 1) (n8 : dx ≠ L + 1 + 1) (n9 : dx ≠ L + 1 + 1 + 1) (n10 : dx ≠ L + 1 + 1 + 1 + 1) (n11 : dx ≠ L + 1 + 1 + 1 + 1 + 1) (n12 : st ≠ L + 1) (n13 : st ≠ L + 1 + 1) (n14 : st ≠ L + 1 + 1 + 1) (n15 : st ≠ L + 1 + 1 + 1 + 1) (n16 : st ≠ L + 1 + 1 + 1 + 1 + 1) (n17 : c ≠ L + 1) (n18 : c ≠ L + 1 + 1) (n19 : c ≠ L + 1 + 1 + 1) (n20 : c ≠ L + 1 + 1 + 1 + 1) (n21 : c ≠ L + 1 + 1 + 1 + 1 + 1) (n22 : bag ≠ L + 1) (n23 : bag ≠ L + 1 + 1) (n24 : bag ≠ L + 1 + 1 + 1) (n25 : bag ≠ L + 1 + 1 + 1 + 1) (n26 : bag ≠ L + 1 + 1 + 1 + 1 + 1)
    (a1 : ∀ p ∈ R, p.1 ≠ dx) (a2 : ∀ p ∈ R, p.1 ≠ st) (a3 : ∀ p ∈ R, p.1 ≠ c) (a4 : ∀ p ∈ R, p.1 ≠ bag) (a5 : ∀ p ∈ R, p.1 ≠ L + 1) (a6 : ∀ p ∈ R, p.1 ≠ L + 1 + 1) (a7 : ∀ p ∈ R, p.1 ≠ L + 1 + 1 + 1) (a8 : ∀ p ∈ R, p.1 ≠ L + 1 + 1 + 1 + 1) (a9 : ∀ p ∈ R, p.1 ≠ L + 1 + 1 + 1 + 1 + 1) : Mid h₀ L o s { s with heap := h, toks := tk }
theorem cutw {α : Type} {M : Model} {A : Around} {E : Value → Shared → Prop} {Q : α → Shared → Prop} {s : Shared} {x : Sem α} (G : Shared → Prop) (h : G s) (k : ∀ s', G s' → wpAny M A x Q E s') : wpAny M A x Q E s := k s h
/-- what stands when the file is made and the word, the key and the key's place are known -/
inductive Pre (h₀ : Heap) (L : Addr) (s : Shared) : Shared → Prop
  | mk {wi lo hi : Int} {k : Int × Int × Bool} {h : Heap} {tk : Nat} {dx st c bag o kl at_ sp : Addr} {mb : Vars} {H : Nat → Int} {T : Nat → Tok} {md ac op : Str} {key : By} {cs : List By} {vc vk ys : List Value} {og om oo ok os : Obj} {t1 tm ta tm2 ta2 td te tf tg top tkey t2 bt u1 u2 : Tok} {ns : Value} {nst nc bn nk na ni : Nat} {bN : Int} {R : Led}
    (F : Fr h₀ L h (fun z => if z = Str.ofString "which" then some (.int wi t1) else if z = Str.ofString "mode" then some (.str md tm) else if z = Str.ofString "access" then some (.str ac ta) else if z = Str.ofString "content" then some (.ref c) else if z = Str.ofString "bag" then some (.ref bag) else mb z))
    (N : News h₀ L h ((dx, kfd H T c (.str md tm2) (.str ac ta2) kl st ns (.int 0 td) at_ (.bool false) (.int (-1) te) (.bytes #[] tf)) :: (st, listOf ys.toArray nst) :: (c, listOf vc.toArray nc) :: (bag, listOf #[.int bN bt] bn) :: (L + 1 + 1 + 1 + 1 + 1, og) :: R))
    (hwk : (wi = 0 ∧ k = (0, 3, false) ∧ lo = 0 ∧ hi = 3) ∨ (wi = 1 ∧ k = (3, 1, true) ∧ lo = 3 ∧ hi = 4))
    (hog : ∃ v, og.data = .cell v) (hom : (L + 1, om) ∈ R) (homd : om.data = .cell (some (.ref o))) (hoo : (L + 1 + 1, oo) ∈ R) (hood : oo.data = .cell (some (.str op top))) (hok : (L + 1 + 1 + 1, ok) ∈ R) (hokd : ok.data = .cell (some (.bytes key tkey)))
    (hos : (L + 1 + 1 + 1 + 1, os) ∈ R) (hosd : os.data = .cell (some (.ref sp))) (hsp : (sp, tupOf #[.int lo u1, .int hi u2] ni) ∈ R)
    (hop : op = Str.ofString "=" ∨ op = Str.ofString ">" ∨ op = Str.ofString ">=") (hksz : key.size ≤ 10)
    (ho : (o, instObj 208 dx) ∈ R) (hkl : (kl, listOf vk.toArray nk) ∈ R) (hk : All2 (KeyIn R) vk [(0, 3, false), (3, 1, true)]) (hat : (at_, tupOf #[.bytes #[] tg, .int (-1) t2] na) ∈ R) (hS : All2 (StIn 2 R) ys (SS cs.length))
    (hcs : All2 IsB vc cs) (hlen : cs.length < 64) (hcok : CsOk cs) (hmd : md = Str.ofString "i-o" ∨ md = Str.ofString "input") (hac : ac = Str.ofString "dynamic" ∨ ac = Str.ofString "sequential")
    (n1 : dx ≠ st) (n2 : dx ≠ c) (n3 : dx ≠ bag) (n4 : dx ≠ L + 1 + 1 + 1 + 1 + 1) (n5 : st ≠ c) (n6 : st ≠ bag) (n7 : st ≠ L + 1 + 1 + 1 + 1 + 1) (n8 : c ≠ bag) (n9 : c ≠ L + 1 + 1 + 1 + 1 + 1) (n10 : bag ≠ L + 1 + 1 + 1 + 1 + 1)
    (a1 : ∀ p ∈ R, p.1 ≠ dx) (a2 : ∀ p ∈ R, p.1 ≠ st) (a3 : ∀ p ∈ R, p.1 ≠ c) (a4 : ∀ p ∈ R, p.1 ≠ bag) (a5 : ∀ p ∈ R, p.1 ≠ L + 1 + 1 + 1 + 1 + 1) : Pre h₀ L s { s with heap := h, toks := tk }
theorem cute {M : Model} {A : Around} {E Q : Value → Shared → Prop} {s : Shared} {e : PySem.Expr} {env : Env} (G : Shared → Prop) (h : G s) (k : ∀ s', G s' → wpAny M A (eval e env) Q E s') : wpAny M A (eval e env) Q E s := k s h

/-- a mark over a goal that is left -/
structure Box (P : Prop) : Prop where
  out : P
noncomputable def law_s1 : {P : Prop // Box P → PySem.Challenge.rw_pc0127_01.Holds} := ⟨_, fun hP0 => by
  refine hd ?_
  w_strict k_go0
  (all_goals try k_fold)
  k_steps
  refine Stop.go ?_
  rename IntsAre _ _ => hInts
  rename Heap.IsList _ _ _ => hList
  refine' SpH.use (bag_c hInts ?ll ?lay) hList (by k_asm) (by k_asm) (by k_asm) (by k_asm) (by k_asm) (by first | exact rfl | assumption) (by ktr_room) (by ktr_units) ?_
  (case ll => omega)
  (case lay => assumption)
  rintro r1 nw1 h1 tk1 F1 N1 ⟨bag, bN, bt, bn, rfl, rfl, hbag⟩
  try k_sweep
  k_steps
  · rename_i z0law_s1 z1law_s1 z2law_s1 z3law_s1 z4law_s1 z5law_s1 z6law_s1 z7law_s1 z8law_s1 z9law_s1 z10law_s1 z11law_s1 z12law_s1 z13law_s1 z14law_s1 z15law_s1 z16law_s1 z17law_s1 z18law_s1 z19law_s1 z20law_s1 z21law_s1 z22law_s1 z23law_s1 z24law_s1 z25law_s1 z26law_s1 z27law_s1 z28law_s1 z29law_s1 z30law_s1 z31law_s1 z32law_s1 z33law_s1 z34law_s1 z35law_s1 z36law_s1 z37law_s1 z39law_s1 z40law_s1 z41law_s1 z43law_s1 z44law_s1 z45law_s1 z46law_s1 z47law_s1 z48law_s1 z49law_s1 z50law_s1 z51law_s1 z52law_s1 z53law_s1 z54law_s1 z55law_s1 z56law_s1 z57law_s1 z58law_s1 z59law_s1 z60law_s1 z70law_s1 z71law_s1 z72law_s1 z73law_s1 z74law_s1 z75law_s1 z76law_s1 z77law_s1
    revert z0law_s1 z1law_s1 z2law_s1 z3law_s1 z4law_s1 z5law_s1 z6law_s1 z7law_s1 z8law_s1 z9law_s1 z10law_s1 z11law_s1 z12law_s1 z13law_s1 z14law_s1 z15law_s1 z16law_s1 z17law_s1 z18law_s1 z19law_s1 z20law_s1 z21law_s1 z22law_s1 z23law_s1 z24law_s1 z25law_s1 z26law_s1 z27law_s1 z28law_s1 z29law_s1 z30law_s1 z31law_s1 z32law_s1 z33law_s1 z34law_s1 z35law_s1 z36law_s1 z37law_s1 hList z39law_s1 z40law_s1 z41law_s1 hInts z43law_s1 z44law_s1 z45law_s1 z46law_s1 z47law_s1 z48law_s1 z49law_s1 z50law_s1 z51law_s1 z52law_s1 z53law_s1 z54law_s1 z55law_s1 z56law_s1 z57law_s1 z58law_s1 z59law_s1 z60law_s1 qk ek h1 tk1 bag bN bt bn hbag z70law_s1 z71law_s1 z72law_s1 z73law_s1 z74law_s1 z75law_s1 z76law_s1 z77law_s1 tk
    exact hP0.out⟩
noncomputable def law_s2 : {P : Prop // Box P → law_s1.1} := ⟨_, fun hP0 => by
  w_top off
  unfold law_s1
  intro z0law_s1 z1law_s1 z2law_s1 z3law_s1 z4law_s1 z5law_s1 z6law_s1 z7law_s1 z8law_s1 z9law_s1 z10law_s1 z11law_s1 z12law_s1 z13law_s1 z14law_s1 z15law_s1 z16law_s1 z17law_s1 z18law_s1 z19law_s1 z20law_s1 z21law_s1 z22law_s1 z23law_s1 z24law_s1 z25law_s1 z26law_s1 z27law_s1 z28law_s1 z29law_s1 z30law_s1 z31law_s1 z32law_s1 z33law_s1 z34law_s1 z35law_s1 z36law_s1 z37law_s1 hList z39law_s1 z40law_s1 z41law_s1 hInts z43law_s1 z44law_s1 z45law_s1 z46law_s1 z47law_s1 z48law_s1 z49law_s1 z50law_s1 z51law_s1 z52law_s1 z53law_s1 z54law_s1 z55law_s1 z56law_s1 z57law_s1 z58law_s1 z59law_s1 z60law_s1 qk ek h1 tk1 bag bN bt bn hbag z70law_s1 z71law_s1 z72law_s1 z73law_s1 z74law_s1 z75law_s1 z76law_s1 z77law_s1 tk
  walk_at "my for"
  refine' range_mutC (mu₁ := [(bag, listOf #[.int _ _] bn)]) (Str.ofString "record") (Str.ofString "record") (fun c i _ _ mu => CJ c bag bn i mu) (by exact rfl) (by assumption) (by omega) (by assumption) ?rN ?rA ?rJ ?_ ?_
  (case rN => assumption)
  (case rJ => exact ⟨[], [], 0, _, _, rfl, All2.nil, Nat.le_refl _, CsOk.nil⟩)
  (case rA => refine List.forall_mem_cons.mpr ⟨?_, List.forall_mem_cons.mpr ⟨?_, List.forall_mem_nil _⟩⟩ <;> (dsimp only; k_all))
  · rintro i t py pz mu ro h3 tk3 hi ⟨cs, vc, nc, N, tN, rfl, hcs, hlen, hok⟩ hsub hap F3 N3
    simp only [List.cons_append, List.nil_append] at N3
    have ha1 := hap _ List.mem_cons_self
    have ha2 := hap _ (List.mem_cons_of_mem _ List.mem_cons_self)
    dsimp only at ha1 ha2
    k_steps
    walk_at "my compU"
    have hvl : vc.length < 10000 := by have := hcs.len; omega
    walk_at "my ledgerU"
    intro g9
    refine comp_map (R' := IsB) (fun b => KBy.picked b none (some 3)) hcs (srcAt_led (by k_mem)) ?_ ?_
    rotate_left
    · rintro j b v nx C oC m₂ h9 tk9 E' hb ⟨tb, rfl⟩ hC hx hm hsub9 F9 N9
      have hb4 : b.size < 10000 := by rw [hok.size b (List.mem_of_getElem? hb)]; decide
      k_steps
      exact ⟨_, _, rfl, by assumption, newsSub (by k_asm) (by walk_at "my sub"), _, rfl⟩
    · intro ys hys D9 h9 tk9 F9 N9 o9
      simp only [LCg.Off1] at o9
      k_steps
      · refine' MEnd.next (mu := [(_, listOf vc.toArray nc), (bag, listOf #[.int _ _] bn)]) (by assumption) ?mN (List.forall_mem_cons.mpr ⟨ha1, List.forall_mem_cons.mpr ⟨ha2, List.forall_mem_nil _⟩⟩) ⟨cs, vc, nc, _, _, rfl, hcs, by omega, hok⟩ (fun z h1 h2 h3 => by simp [h1, h2])
        (case mN => exact newsSub (by assumption) (by simp only [List.cons_append, List.nil_append]; walk_at "my subs"))
      · rename News _ _ _ _ => N8
        simp only [List.push_toArray] at N8
        refine' MEnd.next (mu := [(_, listOf (vc ++ [Value.bytes _ _]).toArray _), (bag, listOf #[.int _ _] bn)]) (by assumption) ?mN2 (List.forall_mem_cons.mpr ⟨ha1, List.forall_mem_cons.mpr ⟨ha2, List.forall_mem_nil _⟩⟩) ⟨cs ++ [_], _, _, _, _, rfl, hcs.append (All2.one ⟨_, rfl⟩), by simp; omega, hok.add rfl (by assumption)⟩ (fun z h1 h2 h3 => by simp [h1, h2])
        (case mN2 => exact newsSub N8 (by simp only [List.cons_append, List.nil_append]; walk_at "my subs"))
  rintro px py pz mu h3 tk3 ⟨cs, vc, nc, N, tN, rfl, hcs, hlen, hok⟩ hap F3 N3
  simp only [List.cons_append, List.nil_append] at N3
  have ha1 := hap _ List.mem_cons_self
  have ha2 := hap _ (List.mem_cons_of_mem _ List.mem_cons_self)
  dsimp only at ha1 ha2
  clear hap
  k_steps
  refine Stop.go ?_
  refine' item_two (by k_asm) ?im1 (by first | assumption | omega) ?_
  (case im1 => k_mem)
  intro md tmd hmd
  k_steps
  refine Stop.go ?_
  refine' item_two (by k_asm) ?im2 (by first | assumption | omega) ?_
  (case im2 => k_mem)
  intro ac tac hac
  k_steps
  · rename_i z61law_s2 z62law_s2 z76law_s2 z78law_s2 z79law_s2 z80law_s2 z81law_s2 z82law_s2 z83law_s2 z84law_s2 z85law_s2 z86law_s2 z87law_s2 z88law_s2 z89law_s2 z90law_s2 z91law_s2 z92law_s2 z93law_s2 z94law_s2 z95law_s2 z96law_s2 z112law_s2 z113law_s2 z114law_s2 z115law_s2 z116law_s2 z117law_s2 z118law_s2 z119law_s2 z120law_s2 z121law_s2 z122law_s2 z123law_s2 z124law_s2 z125law_s2 z129law_s2 z130law_s2 z131law_s2 z132law_s2 z133law_s2 z134law_s2 z135law_s2 z136law_s2 z137law_s2 z138law_s2 z144law_s2 z145law_s2 z146law_s2 z147law_s2 z148law_s2 z149law_s2 z151law_s2 z152law_s2 z153law_s2 z154law_s2 z155law_s2 z156law_s2 z157law_s2 z158law_s2 z159law_s2 z160law_s2 z161law_s2
    revert z0law_s1 z1law_s1 z2law_s1 z3law_s1 z4law_s1 z5law_s1 z6law_s1 z7law_s1 z8law_s1 z9law_s1 z10law_s1 z11law_s1 z12law_s1 z13law_s1 z14law_s1 z15law_s1 z16law_s1 z17law_s1 z18law_s1 z19law_s1 z20law_s1 z21law_s1 z22law_s1 z23law_s1 z24law_s1 z25law_s1 z26law_s1 z27law_s1 z28law_s1 z29law_s1 z30law_s1 z31law_s1 z32law_s1 z33law_s1 z34law_s1 z35law_s1 z36law_s1 z37law_s1 hList z39law_s1 z40law_s1 z41law_s1 hInts z43law_s1 z44law_s1 z45law_s1 z46law_s1 z47law_s1 z48law_s1 z49law_s1 z50law_s1 z51law_s1 z52law_s1 z53law_s1 z54law_s1 z55law_s1 z56law_s1 z57law_s1 z58law_s1 z59law_s1 z60law_s1 z61law_s2 z62law_s2 h1 tk1 bag bN bt bn hbag z70law_s1 z71law_s1 z72law_s1 z73law_s1 z74law_s1 z75law_s1 z76law_s2 z77law_s1 z78law_s2 z79law_s2 z80law_s2 z81law_s2 z82law_s2 z83law_s2 z84law_s2 z85law_s2 z86law_s2 z87law_s2 z88law_s2 z89law_s2 z90law_s2 z91law_s2 z92law_s2 z93law_s2 z94law_s2 z95law_s2 z96law_s2 px py pz h3 tk3 cs vc nc N tN hcs hlen hok ha1 ha2 z112law_s2 z113law_s2 z114law_s2 z115law_s2 z116law_s2 z117law_s2 z118law_s2 z119law_s2 z120law_s2 z121law_s2 z122law_s2 z123law_s2 z124law_s2 z125law_s2 md tmd hmd z129law_s2 z130law_s2 z131law_s2 z132law_s2 z133law_s2 z134law_s2 z135law_s2 z136law_s2 z137law_s2 z138law_s2 qk ek ac tac hac z144law_s2 z145law_s2 z146law_s2 z147law_s2 z148law_s2 z149law_s2 tk z151law_s2 z152law_s2 z153law_s2 z154law_s2 z155law_s2 z156law_s2 z157law_s2 z158law_s2 z159law_s2 z160law_s2 z161law_s2
    exact hP0.out⟩
noncomputable def law_s3 : {P : Prop // Box P → law_s2.1} := ⟨_, fun hP0 => by
  w_top off
  unfold law_s2
  intro z0law_s1 z1law_s1 z2law_s1 z3law_s1 z4law_s1 z5law_s1 z6law_s1 z7law_s1 z8law_s1 z9law_s1 z10law_s1 z11law_s1 z12law_s1 z13law_s1 z14law_s1 z15law_s1 z16law_s1 z17law_s1 z18law_s1 z19law_s1 z20law_s1 z21law_s1 z22law_s1 z23law_s1 z24law_s1 z25law_s1 z26law_s1 z27law_s1 z28law_s1 z29law_s1 z30law_s1 z31law_s1 z32law_s1 z33law_s1 z34law_s1 z35law_s1 z36law_s1 z37law_s1 hList z39law_s1 z40law_s1 z41law_s1 hInts z43law_s1 z44law_s1 z45law_s1 z46law_s1 z47law_s1 z48law_s1 z49law_s1 z50law_s1 z51law_s1 z52law_s1 z53law_s1 z54law_s1 z55law_s1 z56law_s1 z57law_s1 z58law_s1 z59law_s1 z60law_s1 z61law_s2 z62law_s2 h1 tk1 bag bN bt bn hbag z70law_s1 z71law_s1 z72law_s1 z73law_s1 z74law_s1 z75law_s1 z76law_s2 z77law_s1 z78law_s2 z79law_s2 z80law_s2 z81law_s2 z82law_s2 z83law_s2 z84law_s2 z85law_s2 z86law_s2 z87law_s2 z88law_s2 z89law_s2 z90law_s2 z91law_s2 z92law_s2 z93law_s2 z94law_s2 z95law_s2 z96law_s2 px py pz h3 tk3 cs vc nc N tN hcs hlen hok ha1 ha2 z112law_s2 z113law_s2 z114law_s2 z115law_s2 z116law_s2 z117law_s2 z118law_s2 z119law_s2 z120law_s2 z121law_s2 z122law_s2 z123law_s2 z124law_s2 z125law_s2 md tmd hmd z129law_s2 z130law_s2 z131law_s2 z132law_s2 z133law_s2 z134law_s2 z135law_s2 z136law_s2 z137law_s2 z138law_s2 qk ek ac tac hac z144law_s2 z145law_s2 z146law_s2 z147law_s2 z148law_s2 z149law_s2 tk z151law_s2 z152law_s2 z153law_s2 z154law_s2 z155law_s2 z156law_s2 z157law_s2 z158law_s2 z159law_s2 z160law_s2 z161law_s2
  refine Stop.go ?_
  refine' Sp.use (init_c ?ihc hcs ?ihl ?ihk ?iha ?ihka (two_ne hmd (by decide) (by decide)) (two_ne hmd (by decide) (by decide))) (by k_asm) (by k_asm) (by k_asm) (by k_asm) (by k_asm) (by first | exact rfl | assumption) (by ktr_room) (by ktr_units) ?_
  (case ihc => k_mem)
  (case ihl => omega)
  (case ihk => k_mem)
  (case iha => k_mem)
  (case ihka => k_mem)
  rintro r4 nw4 h4 tk4 F4 N4 ⟨o, dx, kl, st, at_, H, T, mk, vk, ys, nk, nst, na, ta, tb, tc, td, te, tf, tg, rfl, rfl, ho, hkl, hk, hat, hS, hsd, hmd1, hms, hnd, hns, hfr, htg⟩
  have N5 := news_sw (pre := [_, _]) N4
  clear N4
  simp only [List.cons_append, List.nil_append] at N5
  have N6 := news_front (news_front (news_front (news_front (news_front (news_front (news_front (news_front (news_front N5 10 rfl) 11 rfl) 12 rfl) 13 rfl) 14 rfl) 14 rfl) 14 rfl) 8 rfl) 8 rfl
  simp only [List.eraseIdx] at N6
  clear N5
  refine cutw (Mid z2law_s1.heap z2law_s1.heap.objs.size o z2law_s1) ?_ ?_
  · have Fa := fr_put (fr_put (fr_put (fr_put F4 (x := Str.ofString "bag") rfl) (x := Str.ofString "content") rfl) (x := Str.ofString "access") rfl) (x := Str.ofString "mode") rfl
    refine' Mid.mk (vk := vk) (nk := nk) (na := na) Fa N6 ⟨_, by assumption⟩ ⟨_, by assumption⟩ ⟨_, by assumption⟩ ⟨_, by assumption⟩ ⟨_, by assumption⟩ ?m1 ?m2 ?m3 ?m4 ?m5 hcs (by omega) hok hmd hac ?e1 ?e2 ?e3 ?e4 ?e5 ?e6 ?e7 ?e8 ?e9 ?e10 ?e11 ?e12 ?e13 ?e14 ?e15 ?e16 ?e17 ?e18 ?e19 ?e20 ?e21 ?e22 ?e23 ?e24 ?e25 ?e26 ?b1 ?b2 ?b3 ?b4 ?b5 ?b6 ?b7 ?b8 ?b9
    (case m1 => walk_at "my mem")
    (case m2 => walk_at "my mem")
    (case m3 => (refine keys_sub hk ?_; walk_at "my subs"))
    (case m4 => walk_at "my mem")
    (case m5 => (refine stamps_sub hS ?_; walk_at "my sub"))
    all_goals first
      | exact Ne.symm hsd
      | exact Ne.symm (hnd (_, _) (by walk_at "my mem"))
      | exact Ne.symm (hns (_, _) (by walk_at "my mem"))
      | exact Ne.symm (hbag (_, _) (by walk_at "my mem"))
      | exact all_app (l := [_, _, _, _, _, _]) (fun p hp => hnd p (List.mem_append_left [_, _, _, _, _, _, _] hp)) hmd1
      | exact all_app (l := [_, _, _, _, _, _]) (fun p hp => hns p (List.mem_append_left [_, _, _, _, _, _, _] hp)) hms
      | (k_ne; done)
      | (refine List.forall_mem_cons.mpr ⟨?_, List.forall_mem_cons.mpr ⟨?_, List.forall_mem_cons.mpr ⟨?_, List.forall_mem_cons.mpr ⟨?_, List.forall_mem_cons.mpr ⟨?_, List.forall_mem_cons.mpr ⟨?_, ?_⟩⟩⟩⟩⟩⟩; (focus (dsimp only; k_ne)); (focus (dsimp only; k_ne)); (focus (dsimp only; k_ne)); (focus (dsimp only; k_ne)); (focus (dsimp only; k_ne)); (focus (dsimp only; k_ne)); exact fun q hq => Ne.symm (hfr q hq (_, _) (by walk_at "my mem")))
  · clear hList hInts h1 tk1 hbag z76law_s2 z78law_s2 z79law_s2 z80law_s2 z81law_s2 z82law_s2 z83law_s2 z84law_s2 z85law_s2 z86law_s2 z87law_s2 z88law_s2 z89law_s2 z90law_s2 z91law_s2 z92law_s2 z93law_s2 z94law_s2 z95law_s2 z96law_s2 px py pz h3 tk3 cs vc nc N tN hcs hlen hok ha1 ha2 z112law_s2 z113law_s2 z114law_s2 z115law_s2 z116law_s2 z117law_s2 z118law_s2 z119law_s2 z120law_s2 z121law_s2 z122law_s2 z123law_s2 z124law_s2 z125law_s2 md tmd hmd z129law_s2 z130law_s2 z131law_s2 z132law_s2 z133law_s2 z134law_s2 z135law_s2 z136law_s2 z137law_s2 z138law_s2 qk ek ac tac hac z144law_s2 z145law_s2 z146law_s2 z147law_s2 z148law_s2 z149law_s2 tk z151law_s2 z152law_s2 z153law_s2 z154law_s2 z155law_s2 z156law_s2 z157law_s2 z158law_s2 z159law_s2 z160law_s2 z161law_s2 h4 tk4 F4 dx kl st at_ H T mk vk ys nk nst na ta tb tc td te tf tg ho hkl hk hat hS hsd hmd1 hms hnd hns hfr htg N6
    revert z0law_s1 z1law_s1 z2law_s1 z3law_s1 z4law_s1 z5law_s1 z6law_s1 z7law_s1 z8law_s1 z9law_s1 z10law_s1 z11law_s1 z12law_s1 z13law_s1 z14law_s1 z15law_s1 z16law_s1 z17law_s1 z18law_s1 z19law_s1 z20law_s1 z21law_s1 z22law_s1 z23law_s1 z24law_s1 z25law_s1 z26law_s1 z27law_s1 z28law_s1 z29law_s1 z30law_s1 z31law_s1 z32law_s1 z33law_s1 z34law_s1 z35law_s1 z36law_s1 z37law_s1 z39law_s1 z40law_s1 z41law_s1 z43law_s1 z44law_s1 z45law_s1 z46law_s1 z47law_s1 z48law_s1 z49law_s1 z50law_s1 z51law_s1 z52law_s1 z53law_s1 z54law_s1 z55law_s1 z56law_s1 z57law_s1 z58law_s1 z59law_s1 z60law_s1 z61law_s2 z62law_s2 bag bN bt bn z70law_s1 z71law_s1 z72law_s1 z73law_s1 z74law_s1 z75law_s1 z77law_s1 o
    exact hP0.out⟩
noncomputable def law_s3n : {P : Prop × Prop // Box P.1 → Box P.2 → law_s3.1} := ⟨(_, _), fun hP0 hP1 => by
  w_top off
  unfold law_s3
  intro z0law_s1 z1law_s1 z2law_s1 z3law_s1 z4law_s1 z5law_s1 z6law_s1 z7law_s1 z8law_s1 z9law_s1 z10law_s1 z11law_s1 z12law_s1 z13law_s1 z14law_s1 z15law_s1 z16law_s1 z17law_s1 z18law_s1 z19law_s1 z20law_s1 z21law_s1 z22law_s1 z23law_s1 z24law_s1 z25law_s1 z26law_s1 z27law_s1 z28law_s1 z29law_s1 z30law_s1 z31law_s1 z32law_s1 z33law_s1 z34law_s1 z35law_s1 z36law_s1 z37law_s1 z39law_s1 z40law_s1 z41law_s1 z43law_s1 z44law_s1 z45law_s1 z46law_s1 z47law_s1 z48law_s1 z49law_s1 z50law_s1 z51law_s1 z52law_s1 z53law_s1 z54law_s1 z55law_s1 z56law_s1 z57law_s1 z58law_s1 z59law_s1 z60law_s1 z61law_s2 z62law_s2 bag bN bt bn z70law_s1 z71law_s1 z72law_s1 z73law_s1 z74law_s1 z75law_s1 z77law_s1 o
  rintro s' @⟨h, tk, dx, st, c, bag, kl, at_, mb, H, T, md, ac, cs, vc, vk, ys, om, oo, ok, os, og, tm, ta, tm2, ta2, td, te, tf, tg, t2, bt, ns, nst, nc, bn, nk, na, bN, R, F0, N0, ⟨vm, hom⟩, ⟨vo, hoo⟩, ⟨vk9, hok⟩, ⟨vs, hos⟩, ⟨vg, hog⟩, ho, hkl, hk, hat, hS, hcs, hlen, hcok, hmd, hac, n1, n2, n3, n4, n5, n6, n7, n8, n9, n10, n11, n12, n13, n14, n15, n16, n17, n18, n19, n20, n21, n22, n23, n24, n25, n26, a1, a2, a3, a4, a5, a6, a7, a8, a9⟩
  have m22 := Ne.symm n22
  have m23 := Ne.symm n23
  have m24 := Ne.symm n24
  have m25 := Ne.symm n25
  have m26 := Ne.symm n26
  k_steps
  refine Stop.go ?_
  refine' item_three (by k_asm) ?im3 (by first | assumption | omega) ?_
  (case im3 => k_mem)
  intro op top hop
  have hj2 : ∀ j : Nat, (j : Int) < 2 → j = 0 ∨ j = 1 := fun j h => by omega
  rename (_ : Int) < 2 => hw2
  rcases hj2 _ hw2 with rfl | rfl
  all_goals clear hj2 hw2
  all_goals k_steps
  · rename_i z61law_s3n z62law_s3n z63law_s3n z64law_s3n z73law_s3n z172law_s3n z173law_s3n z174law_s3n z175law_s3n z176law_s3n z177law_s3n z178law_s3n z179law_s3n z180law_s3n z181law_s3n z182law_s3n z183law_s3n z184law_s3n z185law_s3n z186law_s3n z187law_s3n z188law_s3n z189law_s3n z190law_s3n z191law_s3n z192law_s3n z193law_s3n z194law_s3n z198law_s3n z199law_s3n z200law_s3n z201law_s3n z202law_s3n z203law_s3n z204law_s3n z205law_s3n z206law_s3n z207law_s3n z208law_s3n z209law_s3n z210law_s3n z211law_s3n z212law_s3n z213law_s3n z214law_s3n z215law_s3n z216law_s3n z217law_s3n z218law_s3n z219law_s3n z220law_s3n z221law_s3n z222law_s3n z223law_s3n z224law_s3n z225law_s3n z226law_s3n z227law_s3n z228law_s3n z229law_s3n z230law_s3n z231law_s3n z232law_s3n z233law_s3n z234law_s3n z235law_s3n z236law_s3n z237law_s3n z238law_s3n z239law_s3n z240law_s3n z241law_s3n z242law_s3n z243law_s3n z244law_s3n z245law_s3n z246law_s3n z247law_s3n z248law_s3n z249law_s3n z250law_s3n z251law_s3n z252law_s3n z253law_s3n z254law_s3n z257law_s3n z258law_s3n z259law_s3n z260law_s3n z261law_s3n z262law_s3n z264law_s3n z265law_s3n z266law_s3n z267law_s3n z268law_s3n z269law_s3n z270law_s3n z271law_s3n z272law_s3n z273law_s3n z274law_s3n
    revert z0law_s1 z1law_s1 z2law_s1 z3law_s1 z4law_s1 z5law_s1 z6law_s1 z7law_s1 z8law_s1 z9law_s1 z10law_s1 z11law_s1 z12law_s1 z13law_s1 z14law_s1 z15law_s1 z16law_s1 z17law_s1 z18law_s1 z19law_s1 z20law_s1 z21law_s1 z22law_s1 z23law_s1 z24law_s1 z25law_s1 z26law_s1 z27law_s1 z28law_s1 z29law_s1 z30law_s1 z31law_s1 z32law_s1 z33law_s1 z34law_s1 z35law_s1 z36law_s1 z37law_s1 z39law_s1 z40law_s1 z41law_s1 z43law_s1 z44law_s1 z45law_s1 z46law_s1 z47law_s1 z48law_s1 z49law_s1 z50law_s1 z51law_s1 z52law_s1 z53law_s1 z54law_s1 z55law_s1 z56law_s1 z57law_s1 z58law_s1 z59law_s1 z60law_s1 z61law_s2 z62law_s2 z61law_s3n z62law_s3n z63law_s3n z64law_s3n z70law_s1 z71law_s1 z72law_s1 z73law_s1 z74law_s1 z75law_s1 o h z73law_s3n dx st c bag kl at_ mb H T md ac cs vc vk ys om oo ok os og tm ta tm2 ta2 td te tf tg t2 bt ns nst nc bn nk na bN R ho hkl hk hat hS hcs hlen hcok hmd hac n1 n2 n3 n4 n5 n6 n7 n8 n9 n10 n11 n12 n13 n14 n15 n16 n17 n18 n19 n20 n21 n22 n23 n24 n25 n26 a1 a2 a3 a4 a5 a6 a7 a8 a9 vm hom vo hoo vk9 hok vs hos vg hog m22 m23 m24 m25 m26 z172law_s3n z173law_s3n z174law_s3n z175law_s3n z176law_s3n z177law_s3n z178law_s3n z179law_s3n z180law_s3n z181law_s3n z182law_s3n z183law_s3n z184law_s3n z185law_s3n z186law_s3n z187law_s3n z188law_s3n z189law_s3n z190law_s3n z191law_s3n z192law_s3n z193law_s3n z194law_s3n op top hop z198law_s3n z199law_s3n z200law_s3n z201law_s3n z202law_s3n z203law_s3n z204law_s3n z205law_s3n z206law_s3n z207law_s3n z208law_s3n z209law_s3n z210law_s3n z211law_s3n z212law_s3n z213law_s3n z214law_s3n z215law_s3n z216law_s3n z217law_s3n z218law_s3n z219law_s3n z220law_s3n z221law_s3n z222law_s3n z223law_s3n z224law_s3n z225law_s3n z226law_s3n z227law_s3n z228law_s3n z229law_s3n z230law_s3n z231law_s3n z232law_s3n z233law_s3n z234law_s3n z235law_s3n z236law_s3n z237law_s3n z238law_s3n z239law_s3n z240law_s3n z241law_s3n z242law_s3n z243law_s3n z244law_s3n z245law_s3n z246law_s3n z247law_s3n z248law_s3n z249law_s3n z250law_s3n z251law_s3n z252law_s3n z253law_s3n z254law_s3n qk ek z257law_s3n z258law_s3n z259law_s3n z260law_s3n z261law_s3n z262law_s3n tk z264law_s3n z265law_s3n z266law_s3n z267law_s3n z268law_s3n z269law_s3n z270law_s3n z271law_s3n z272law_s3n z273law_s3n z274law_s3n
    exact hP0.out
  · rename_i z61law_s3n z62law_s3n z63law_s3n z64law_s3n z73law_s3n z172law_s3n z173law_s3n z174law_s3n z175law_s3n z176law_s3n z177law_s3n z178law_s3n z179law_s3n z180law_s3n z181law_s3n z182law_s3n z183law_s3n z184law_s3n z185law_s3n z186law_s3n z187law_s3n z188law_s3n z189law_s3n z190law_s3n z191law_s3n z192law_s3n z193law_s3n z194law_s3n z198law_s3n z199law_s3n z200law_s3n z201law_s3n z202law_s3n z203law_s3n z204law_s3n z205law_s3n z206law_s3n z207law_s3n z208law_s3n z209law_s3n z210law_s3n z211law_s3n z212law_s3n z213law_s3n z214law_s3n z215law_s3n z218law_s3n z219law_s3n z220law_s3n z221law_s3n z222law_s3n z223law_s3n z224law_s3n z225law_s3n z226law_s3n z228law_s3n z229law_s3n z230law_s3n z231law_s3n z232law_s3n z233law_s3n z234law_s3n z235law_s3n z236law_s3n z237law_s3n z238law_s3n z239law_s3n z240law_s3n z241law_s3n
    revert z0law_s1 z1law_s1 z2law_s1 z3law_s1 z4law_s1 z5law_s1 z6law_s1 z7law_s1 z8law_s1 z9law_s1 z10law_s1 z11law_s1 z12law_s1 z13law_s1 z14law_s1 z15law_s1 z16law_s1 z17law_s1 z18law_s1 z19law_s1 z20law_s1 z21law_s1 z22law_s1 z23law_s1 z24law_s1 z25law_s1 z26law_s1 z27law_s1 z28law_s1 z29law_s1 z30law_s1 z31law_s1 z32law_s1 z33law_s1 z34law_s1 z35law_s1 z36law_s1 z37law_s1 z39law_s1 z40law_s1 z41law_s1 z43law_s1 z44law_s1 z45law_s1 z46law_s1 z47law_s1 z48law_s1 z49law_s1 z50law_s1 z51law_s1 z52law_s1 z53law_s1 z54law_s1 z55law_s1 z56law_s1 z57law_s1 z58law_s1 z59law_s1 z60law_s1 z61law_s2 z62law_s2 z61law_s3n z62law_s3n z63law_s3n z64law_s3n z70law_s1 z71law_s1 z72law_s1 z73law_s1 z74law_s1 z75law_s1 o h z73law_s3n dx st c bag kl at_ mb H T md ac cs vc vk ys om oo ok os og tm ta tm2 ta2 td te tf tg t2 bt ns nst nc bn nk na bN R ho hkl hk hat hS hcs hlen hcok hmd hac n1 n2 n3 n4 n5 n6 n7 n8 n9 n10 n11 n12 n13 n14 n15 n16 n17 n18 n19 n20 n21 n22 n23 n24 n25 n26 a1 a2 a3 a4 a5 a6 a7 a8 a9 vm hom vo hoo vk9 hok vs hos vg hog m22 m23 m24 m25 m26 z172law_s3n z173law_s3n z174law_s3n z175law_s3n z176law_s3n z177law_s3n z178law_s3n z179law_s3n z180law_s3n z181law_s3n z182law_s3n z183law_s3n z184law_s3n z185law_s3n z186law_s3n z187law_s3n z188law_s3n z189law_s3n z190law_s3n z191law_s3n z192law_s3n z193law_s3n z194law_s3n op top hop z198law_s3n z199law_s3n z200law_s3n z201law_s3n z202law_s3n z203law_s3n z204law_s3n z205law_s3n z206law_s3n z207law_s3n z208law_s3n z209law_s3n z210law_s3n z211law_s3n z212law_s3n z213law_s3n z214law_s3n z215law_s3n qk ek z218law_s3n z219law_s3n z220law_s3n z221law_s3n z222law_s3n z223law_s3n z224law_s3n z225law_s3n z226law_s3n tk z228law_s3n z229law_s3n z230law_s3n z231law_s3n z232law_s3n z233law_s3n z234law_s3n z235law_s3n z236law_s3n z237law_s3n z238law_s3n z239law_s3n z240law_s3n z241law_s3n
    exact hP1.out⟩
noncomputable def law_s4na : {P : Prop // Box P → law_s3n.1.1} := ⟨_, fun hP0 => by
  w_top off
  unfold law_s3n
  intro z0law_s1 z1law_s1 z2law_s1 z3law_s1 z4law_s1 z5law_s1 z6law_s1 z7law_s1 z8law_s1 z9law_s1 z10law_s1 z11law_s1 z12law_s1 z13law_s1 z14law_s1 z15law_s1 z16law_s1 z17law_s1 z18law_s1 z19law_s1 z20law_s1 z21law_s1 z22law_s1 z23law_s1 z24law_s1 z25law_s1 z26law_s1 z27law_s1 z28law_s1 z29law_s1 z30law_s1 z31law_s1 z32law_s1 z33law_s1 z34law_s1 z35law_s1 z36law_s1 z37law_s1 z39law_s1 z40law_s1 z41law_s1 z43law_s1 z44law_s1 z45law_s1 z46law_s1 z47law_s1 z48law_s1 z49law_s1 z50law_s1 z51law_s1 z52law_s1 z53law_s1 z54law_s1 z55law_s1 z56law_s1 z57law_s1 z58law_s1 z59law_s1 z60law_s1 z61law_s2 z62law_s2 z61law_s3n z62law_s3n z63law_s3n z64law_s3n z70law_s1 z71law_s1 z72law_s1 z73law_s1 z74law_s1 z75law_s1 o h z73law_s3n dx st c bag kl at_ mb H T md ac cs vc vk ys om oo ok os og tm ta tm2 ta2 td te tf tg t2 bt ns nst nc bn nk na bN R ho hkl hk hat hS hcs hlen hcok hmd hac n1 n2 n3 n4 n5 n6 n7 n8 n9 n10 n11 n12 n13 n14 n15 n16 n17 n18 n19 n20 n21 n22 n23 n24 n25 n26 a1 a2 a3 a4 a5 a6 a7 a8 a9 vm hom vo hoo vk9 hok vs hos vg hog m22 m23 m24 m25 m26 z172law_s3n z173law_s3n z174law_s3n z175law_s3n z176law_s3n z177law_s3n z178law_s3n z179law_s3n z180law_s3n z181law_s3n z182law_s3n z183law_s3n z184law_s3n z185law_s3n z186law_s3n z187law_s3n z188law_s3n z189law_s3n z190law_s3n z191law_s3n z192law_s3n z193law_s3n z194law_s3n op top hop z198law_s3n z199law_s3n z200law_s3n z201law_s3n z202law_s3n z203law_s3n z204law_s3n z205law_s3n z206law_s3n z207law_s3n z208law_s3n z209law_s3n z210law_s3n z211law_s3n z212law_s3n z213law_s3n z214law_s3n z215law_s3n z216law_s3n z217law_s3n z218law_s3n z219law_s3n z220law_s3n z221law_s3n z222law_s3n z223law_s3n z224law_s3n z225law_s3n z226law_s3n z227law_s3n z228law_s3n z229law_s3n z230law_s3n z231law_s3n z232law_s3n z233law_s3n z234law_s3n z235law_s3n z236law_s3n z237law_s3n z238law_s3n z239law_s3n z240law_s3n z241law_s3n z242law_s3n z243law_s3n z244law_s3n z245law_s3n z246law_s3n z247law_s3n z248law_s3n z249law_s3n z250law_s3n z251law_s3n z252law_s3n z253law_s3n z254law_s3n qk ek z257law_s3n z258law_s3n z259law_s3n z260law_s3n z261law_s3n z262law_s3n tk z264law_s3n z265law_s3n z266law_s3n z267law_s3n z268law_s3n z269law_s3n z270law_s3n z271law_s3n z272law_s3n z273law_s3n z274law_s3n
  refine Stop.go ?_
  refine' item_led (vs := [_, _]) (by k_asm) ?im4 (by decide) rfl (by decide) ?_
  (case im4 => k_mem)
  k_steps
  rename (Obj.data _ = Data.cell (some (Value.bytes _ _))) => hkeyc
  obtain ⟨key, hkc, hksz⟩ := key_box hkeyc (by first | exact Nat.le_trans (KBc.size_picked_le _ _ _) (Nat.le_of_ble_eq_true rfl) | exact Nat.le_of_ble_eq_true rfl)
  clear hkeyc
  rename Fr _ _ _ _ => F9
  rename News _ _ _ _ => N6
  have N5 := news_front (news_front (news_front (news_front (news_front N6 14 rfl) 10 rfl) 10 rfl) 10 rfl) 10 rfl
  simp only [List.eraseIdx] at N5
  refine Stop.go ?_
  refine cute (Pre z2law_s1.heap z2law_s1.heap.objs.size z2law_s1) ?_ ?_
  · have Fa := fr_put (fr_put (fr_put (fr_put (fr_put F9 (x := Str.ofString "bag") rfl) (x := Str.ofString "content") rfl) (x := Str.ofString "access") rfl) (x := Str.ofString "mode") rfl) (x := Str.ofString "which") rfl
    refine' Pre.mk (o := o) (vk := vk) (nk := nk) (na := na) Fa N5 (by first | exact .inl ⟨rfl, rfl, rfl, rfl⟩ | exact .inr ⟨rfl, rfl, rfl, rfl⟩) ⟨_, by assumption⟩ ?m1 (by assumption) ?m2 (by assumption) ?m3 hkc ?mS (by assumption) ?mP hop hksz ?m4 ?m5 ?m6 ?m7 ?m8 hcs hlen hcok hmd hac ?e1 ?e2 ?e3 ?e4 ?e5 ?e6 ?e7 ?e8 ?e9 ?eA ?b1 ?b2 ?b3 ?b4 ?b5
    (case m1 => walk_at "my mem")
    (case m2 => walk_at "my mem")
    (case m3 => walk_at "my mem")
    (case mS => walk_at "my mem")
    (case mP => walk_at "my mem")
    (case m4 => walk_at "my mem")
    (case m5 => walk_at "my mem")
    (case m6 => (refine keys_sub hk ?_; walk_at "my subs"))
    (case m7 => walk_at "my mem")
    (case m8 => (refine stamps_sub hS ?_; walk_at "my sub"))
    all_goals first | (k_ne; done) | assumption | exact Ne.symm (by assumption) | skip
    all_goals (repeat (refine List.forall_mem_cons.mpr ⟨?_, ?_⟩; (focus (dsimp only; first | (k_ne; done) | assumption | exact Ne.symm (by assumption) | exact Nat.ne_of_gt (by assumption)))))
    all_goals first | assumption | skip
  · rename_i z262law_s4na z272law_s4na z273law_s4na z276law_s4na
    clear z62law_s3n z63law_s3n z64law_s3n o h z73law_s3n dx st c bag kl at_ mb H T md ac cs vc vk ys om oo ok os og tm ta tm2 ta2 td te tf tg t2 bt ns nst nc bn nk na bN R ho hkl hk hat hS hcs hlen hcok hmd hac n1 n2 n3 n4 n5 n6 n7 n8 n9 n10 n11 n12 n13 n14 n15 n16 n17 n18 n19 n20 n21 n22 n23 n24 n25 n26 a1 a2 a3 a4 a5 a6 a7 a8 a9 vm hom vo hoo vk9 hok vs hos vg hog m22 m23 m24 m25 m26 z172law_s3n z173law_s3n z174law_s3n z175law_s3n z176law_s3n z177law_s3n z178law_s3n z179law_s3n z180law_s3n z181law_s3n z182law_s3n z183law_s3n z184law_s3n z185law_s3n z186law_s3n z187law_s3n z188law_s3n z189law_s3n z190law_s3n z191law_s3n z192law_s3n z193law_s3n z194law_s3n op top hop z198law_s3n z199law_s3n z200law_s3n z201law_s3n z202law_s3n z203law_s3n z204law_s3n z205law_s3n z206law_s3n z207law_s3n z208law_s3n z209law_s3n z210law_s3n z211law_s3n z212law_s3n z213law_s3n z214law_s3n z215law_s3n z216law_s3n z217law_s3n z218law_s3n z219law_s3n z220law_s3n z221law_s3n z222law_s3n z223law_s3n z224law_s3n z225law_s3n z226law_s3n z227law_s3n z228law_s3n z229law_s3n z230law_s3n z231law_s3n z232law_s3n z233law_s3n z234law_s3n z235law_s3n z236law_s3n z237law_s3n z238law_s3n z239law_s3n z240law_s3n z241law_s3n z242law_s3n z243law_s3n z244law_s3n z245law_s3n z246law_s3n z247law_s3n z248law_s3n z249law_s3n z250law_s3n z251law_s3n z252law_s3n z253law_s3n z254law_s3n qk ek z257law_s3n z258law_s3n z259law_s3n z260law_s3n z261law_s3n z262law_s4na z264law_s3n z265law_s3n z266law_s3n z267law_s3n z268law_s3n z269law_s3n z270law_s3n z271law_s3n z274law_s3n z272law_s4na z273law_s4na F9 N6 z276law_s4na tk key hkc hksz N5
    revert z0law_s1 z1law_s1 z2law_s1 z3law_s1 z4law_s1 z5law_s1 z6law_s1 z7law_s1 z8law_s1 z9law_s1 z10law_s1 z11law_s1 z12law_s1 z13law_s1 z14law_s1 z15law_s1 z16law_s1 z17law_s1 z18law_s1 z19law_s1 z20law_s1 z21law_s1 z22law_s1 z23law_s1 z24law_s1 z25law_s1 z26law_s1 z27law_s1 z28law_s1 z29law_s1 z30law_s1 z31law_s1 z32law_s1 z33law_s1 z34law_s1 z35law_s1 z36law_s1 z37law_s1 z39law_s1 z40law_s1 z41law_s1 z43law_s1 z44law_s1 z45law_s1 z46law_s1 z47law_s1 z48law_s1 z49law_s1 z50law_s1 z51law_s1 z52law_s1 z53law_s1 z54law_s1 z55law_s1 z56law_s1 z57law_s1 z58law_s1 z59law_s1 z60law_s1 z61law_s2 z62law_s2 z61law_s3n z70law_s1 z71law_s1 z72law_s1 z73law_s1 z74law_s1 z75law_s1
    exact hP0.out⟩
noncomputable def law_s4nb : {P : Prop // Box P → law_s3n.1.2} := ⟨_, fun hP0 => by
  w_top off
  unfold law_s3n
  intro z0law_s1 z1law_s1 z2law_s1 z3law_s1 z4law_s1 z5law_s1 z6law_s1 z7law_s1 z8law_s1 z9law_s1 z10law_s1 z11law_s1 z12law_s1 z13law_s1 z14law_s1 z15law_s1 z16law_s1 z17law_s1 z18law_s1 z19law_s1 z20law_s1 z21law_s1 z22law_s1 z23law_s1 z24law_s1 z25law_s1 z26law_s1 z27law_s1 z28law_s1 z29law_s1 z30law_s1 z31law_s1 z32law_s1 z33law_s1 z34law_s1 z35law_s1 z36law_s1 z37law_s1 z39law_s1 z40law_s1 z41law_s1 z43law_s1 z44law_s1 z45law_s1 z46law_s1 z47law_s1 z48law_s1 z49law_s1 z50law_s1 z51law_s1 z52law_s1 z53law_s1 z54law_s1 z55law_s1 z56law_s1 z57law_s1 z58law_s1 z59law_s1 z60law_s1 z61law_s2 z62law_s2 z61law_s3n z62law_s3n z63law_s3n z64law_s3n z70law_s1 z71law_s1 z72law_s1 z73law_s1 z74law_s1 z75law_s1 o h z73law_s3n dx st c bag kl at_ mb H T md ac cs vc vk ys om oo ok os og tm ta tm2 ta2 td te tf tg t2 bt ns nst nc bn nk na bN R ho hkl hk hat hS hcs hlen hcok hmd hac n1 n2 n3 n4 n5 n6 n7 n8 n9 n10 n11 n12 n13 n14 n15 n16 n17 n18 n19 n20 n21 n22 n23 n24 n25 n26 a1 a2 a3 a4 a5 a6 a7 a8 a9 vm hom vo hoo vk9 hok vs hos vg hog m22 m23 m24 m25 m26 z172law_s3n z173law_s3n z174law_s3n z175law_s3n z176law_s3n z177law_s3n z178law_s3n z179law_s3n z180law_s3n z181law_s3n z182law_s3n z183law_s3n z184law_s3n z185law_s3n z186law_s3n z187law_s3n z188law_s3n z189law_s3n z190law_s3n z191law_s3n z192law_s3n z193law_s3n z194law_s3n op top hop z198law_s3n z199law_s3n z200law_s3n z201law_s3n z202law_s3n z203law_s3n z204law_s3n z205law_s3n z206law_s3n z207law_s3n z208law_s3n z209law_s3n z210law_s3n z211law_s3n z212law_s3n z213law_s3n z214law_s3n z215law_s3n qk ek z218law_s3n z219law_s3n z220law_s3n z221law_s3n z222law_s3n z223law_s3n z224law_s3n z225law_s3n z226law_s3n tk z228law_s3n z229law_s3n z230law_s3n z231law_s3n z232law_s3n z233law_s3n z234law_s3n z235law_s3n z236law_s3n z237law_s3n z238law_s3n z239law_s3n z240law_s3n z241law_s3n
  refine Stop.go ?_
  refine' item_led (vs := [_, _]) (by k_asm) ?im4 (by decide) rfl (by decide) ?_
  (case im4 => k_mem)
  k_steps
  rename (Obj.data _ = Data.cell (some (Value.bytes _ _))) => hkeyc
  obtain ⟨key, hkc, hksz⟩ := key_box hkeyc (by first | exact Nat.le_trans (KBc.size_picked_le _ _ _) (Nat.le_of_ble_eq_true rfl) | exact Nat.le_of_ble_eq_true rfl)
  clear hkeyc
  rename Fr _ _ _ _ => F9
  rename News _ _ _ _ => N6
  have N5 := news_front (news_front (news_front (news_front (news_front N6 14 rfl) 10 rfl) 10 rfl) 10 rfl) 10 rfl
  simp only [List.eraseIdx] at N5
  refine Stop.go ?_
  refine cute (Pre z2law_s1.heap z2law_s1.heap.objs.size z2law_s1) ?_ ?_
  · have Fa := fr_put (fr_put (fr_put (fr_put (fr_put F9 (x := Str.ofString "bag") rfl) (x := Str.ofString "content") rfl) (x := Str.ofString "access") rfl) (x := Str.ofString "mode") rfl) (x := Str.ofString "which") rfl
    refine' Pre.mk (o := o) (vk := vk) (nk := nk) (na := na) Fa N5 (by first | exact .inl ⟨rfl, rfl, rfl, rfl⟩ | exact .inr ⟨rfl, rfl, rfl, rfl⟩) ⟨_, by assumption⟩ ?m1 (by assumption) ?m2 (by assumption) ?m3 hkc ?mS (by assumption) ?mP hop hksz ?m4 ?m5 ?m6 ?m7 ?m8 hcs hlen hcok hmd hac ?e1 ?e2 ?e3 ?e4 ?e5 ?e6 ?e7 ?e8 ?e9 ?eA ?b1 ?b2 ?b3 ?b4 ?b5
    (case m1 => walk_at "my mem")
    (case m2 => walk_at "my mem")
    (case m3 => walk_at "my mem")
    (case mS => walk_at "my mem")
    (case mP => walk_at "my mem")
    (case m4 => walk_at "my mem")
    (case m5 => walk_at "my mem")
    (case m6 => (refine keys_sub hk ?_; walk_at "my subs"))
    (case m7 => walk_at "my mem")
    (case m8 => (refine stamps_sub hS ?_; walk_at "my sub"))
    all_goals first | (k_ne; done) | assumption | exact Ne.symm (by assumption) | skip
    all_goals (repeat (refine List.forall_mem_cons.mpr ⟨?_, ?_⟩; (focus (dsimp only; first | (k_ne; done) | assumption | exact Ne.symm (by assumption) | exact Nat.ne_of_gt (by assumption)))))
    all_goals first | assumption | skip
  · rename_i z227law_s4nb z239law_s4nb z240law_s4nb z243law_s4nb
    clear z62law_s3n z63law_s3n z64law_s3n o h z73law_s3n dx st c bag kl at_ mb H T md ac cs vc vk ys om oo ok os og tm ta tm2 ta2 td te tf tg t2 bt ns nst nc bn nk na bN R ho hkl hk hat hS hcs hlen hcok hmd hac n1 n2 n3 n4 n5 n6 n7 n8 n9 n10 n11 n12 n13 n14 n15 n16 n17 n18 n19 n20 n21 n22 n23 n24 n25 n26 a1 a2 a3 a4 a5 a6 a7 a8 a9 vm hom vo hoo vk9 hok vs hos vg hog m22 m23 m24 m25 m26 z172law_s3n z173law_s3n z174law_s3n z175law_s3n z176law_s3n z177law_s3n z178law_s3n z179law_s3n z180law_s3n z181law_s3n z182law_s3n z183law_s3n z184law_s3n z185law_s3n z186law_s3n z187law_s3n z188law_s3n z189law_s3n z190law_s3n z191law_s3n z192law_s3n z193law_s3n z194law_s3n op top hop z198law_s3n z199law_s3n z200law_s3n z201law_s3n z202law_s3n z203law_s3n z204law_s3n z205law_s3n z206law_s3n z207law_s3n z208law_s3n z209law_s3n z210law_s3n z211law_s3n z212law_s3n z213law_s3n z214law_s3n z215law_s3n qk ek z218law_s3n z219law_s3n z220law_s3n z221law_s3n z222law_s3n z223law_s3n z224law_s3n z225law_s3n z226law_s3n z227law_s4nb z228law_s3n z229law_s3n z231law_s3n z232law_s3n z233law_s3n z234law_s3n z235law_s3n z236law_s3n z237law_s3n z238law_s3n z241law_s3n z239law_s4nb z240law_s4nb F9 N6 z243law_s4nb tk key hkc hksz N5
    revert z0law_s1 z1law_s1 z2law_s1 z3law_s1 z4law_s1 z5law_s1 z6law_s1 z7law_s1 z8law_s1 z9law_s1 z10law_s1 z11law_s1 z12law_s1 z13law_s1 z14law_s1 z15law_s1 z16law_s1 z17law_s1 z18law_s1 z19law_s1 z20law_s1 z21law_s1 z22law_s1 z23law_s1 z24law_s1 z25law_s1 z26law_s1 z27law_s1 z28law_s1 z29law_s1 z30law_s1 z31law_s1 z32law_s1 z33law_s1 z34law_s1 z35law_s1 z36law_s1 z37law_s1 z39law_s1 z40law_s1 z41law_s1 z43law_s1 z44law_s1 z45law_s1 z46law_s1 z47law_s1 z48law_s1 z49law_s1 z50law_s1 z51law_s1 z52law_s1 z53law_s1 z54law_s1 z55law_s1 z56law_s1 z57law_s1 z58law_s1 z59law_s1 z60law_s1 z61law_s2 z62law_s2 z61law_s3n z70law_s1 z71law_s1 z72law_s1 z73law_s1 z74law_s1 z75law_s1
    exact hP0.out⟩
noncomputable def law_s5n : {P : Prop // Box P → law_s4na.1} := ⟨_, fun hP0 => by
  w_top off
  unfold law_s4na
  intro z0law_s1 z1law_s1 z2law_s1 z3law_s1 z4law_s1 z5law_s1 z6law_s1 z7law_s1 z8law_s1 z9law_s1 z10law_s1 z11law_s1 z12law_s1 z13law_s1 z14law_s1 z15law_s1 z16law_s1 z17law_s1 z18law_s1 z19law_s1 z20law_s1 z21law_s1 z22law_s1 z23law_s1 z24law_s1 z25law_s1 z26law_s1 z27law_s1 z28law_s1 z29law_s1 z30law_s1 z31law_s1 z32law_s1 z33law_s1 z34law_s1 z35law_s1 z36law_s1 z37law_s1 z39law_s1 z40law_s1 z41law_s1 z43law_s1 z44law_s1 z45law_s1 z46law_s1 z47law_s1 z48law_s1 z49law_s1 z50law_s1 z51law_s1 z52law_s1 z53law_s1 z54law_s1 z55law_s1 z56law_s1 z57law_s1 z58law_s1 z59law_s1 z60law_s1 z61law_s2 z62law_s2 z61law_s3n z70law_s1 z71law_s1 z72law_s1 z73law_s1 z74law_s1 z75law_s1
  rintro s' @⟨wi, lo, hi, k, h, tk, dx, st, c, bag, o, kl, at_, sp, mb, H, T, md, ac, op, key, cs, vc, vk, ys, og, om, oo, ok, os, t1, tm, ta, tm2, ta2, td, te, tf, tg, top, tkey, t2, bt, u1, u2, ns, nst, nc, bn, nk, na, ni, bN, R, F0, N0, hwk, ⟨vg, hog⟩, hom, homd, hoo, hood, hokm, hokd, hos, hosd, hsp, hop, hksz, ho, hkl, hk, hat, hS, hcs, hlen, hok, hmd, hac, n1, n2, n3, n4, n5, n6, n7, n8, n9, n10, a1, a2, a3, a4, a5⟩
  have m1 := Ne.symm n1
  have m2 := Ne.symm n2
  have m3 := Ne.symm n3
  have m4 := Ne.symm n4
  have m5 := Ne.symm n5
  have m6 := Ne.symm n6
  have m7 := Ne.symm n7
  have m8 := Ne.symm n8
  have m9 := Ne.symm n9
  have m10 := Ne.symm n10
  refine stop_ ?_
  walk_at "my enE"
  have hcl9 : cs.length < 64 := hlen
  have hvl9 : vc.length < 10000 := by have := hcs.len; omega
  refine' en_callE (.type "tuple") (fun l v (i : Nat) => XRow l v (row3 k (cs.getD i #[], (i : Int)))) (fun l l' v i h hs => h.mono hs) (fun _ => true) (by rfl) ?eh hvl9 (by decide) (by rfl) (by rfl) (by rfl) (by decide) (by k_asm) (by k_asm) ?_ ?_
  (case eh => k_mem)
  · intro i9 t9 v9 nx C9 oC9 m9 h9 tk9 E9 hv9 hC9 ha9 hb9 hCm9 hsub9 F9 N9
    obtain ⟨b9, hb9', tb9, rfl⟩ := hcs.get' hv9
    have hb4 : b9.size < 10000 := by rw [hok.size b9 (List.mem_of_getElem? hb9')]; decide
    have hbd : cs.getD i9 #[] = b9 := by rw [List.getD_eq_getElem?_getD, hb9']; rfl
    refine enTests_nil (EtEnd.yes ⟨rfl, ?_⟩)
    rcases hwk with ⟨rfl, rfl, rfl, rfl⟩ | ⟨rfl, rfl, rfl, rfl⟩
    · k_steps
      rename ∀ p ∈ nx, p.1 < _ => l9
      refine' ⟨_, _, [(_, _)], rfl, by k_asm, newsSub (by k_asm) ?s5sa, ?s5ca, ?s5fa, ?s5ra⟩
      (case s5sa => walk_at "my subs")
      (case s5ca => exact fun q hq => by rw [List.mem_singleton.mp hq])
      (case s5fa => exact fun q hq p hp => by rw [List.mem_singleton.mp hq]; exact Nat.ne_of_lt (l9 p hp))
      (case s5ra => (rw [hbd]; exact ⟨_, _, _, _, _, rfl, List.mem_cons_self⟩))
    · k_steps
      rename ∀ p ∈ nx, p.1 < _ => l9
      refine' ⟨_, _, [(_, _)], rfl, by k_asm, newsSub (by k_asm) ?s5sb, ?s5cb, ?s5fb, ?s5rb⟩
      (case s5sb => walk_at "my subs")
      (case s5cb => exact fun q hq => by rw [List.mem_singleton.mp hq])
      (case s5fb => exact fun q hq p hp => by rw [List.mem_singleton.mp hq]; exact Nat.ne_of_lt (l9 p hp))
      (case s5rb => (rw [hbd]; exact ⟨_, _, _, _, _, rfl, List.mem_cons_self⟩))
  intro D9 h9 tk9 ys9 tl9 F9 N9 htD9 hoD9 hA9 hc9 hf9
  rw [hcs.len, List.filter_eq_self.mpr (fun _ _ => rfl)] at hA9
  simp only [LCg.Off1] at hoD9
  k_steps
  refine Stop.go ?_
  refine sorted_rows (vs := ys9) (ks := (List.range cs.length).map (kkey k cs (SS cs.length))) F9 N9 ⟨_, (N9 _ (List.Mem.head _)).1, rfl, _, rfl⟩ (rows_keys hA9 (fun p hp => List.mem_cons_of_mem _ (List.mem_append_left _ hp))) (by rw [kkey_snd SS_len]; exact SS_nodup) (by simpa using hcl9) ?_
  intro D8 c8 h8 p8 F8 N8 hl8 hp8 hpw8
  rw [List.length_map, List.length_range] at hp8
  rw [kkey_pick hp8] at hpw8
  have hX8 := rows_pick hA9 hp8
  clear hA9
  generalize (p8.map fun i => ys9.getD i Value.none) = rv8 at N8 hX8
  have N7 := newsSub (news_sw (pre := [_]) (fun q hq => N8 q (by
    rcases List.mem_cons.mp hq with rfl | hq
    · exact List.mem_cons_self
    · exact List.mem_cons_of_mem _ (List.mem_cons_of_mem _ hq)))) (fun q hq => hq)
  clear N8 N9 F9 hoD9 htD9
  have l8 := fun p hp => hl8 p (List.mem_cons_of_mem _ (List.mem_append_right _ hp))
  have l8t := fun p hp => hl8 p (List.mem_cons_of_mem _ (List.mem_append_left _ hp))
  clear hl8
  simp only [List.forall_mem_cons, List.forall_mem_nil, and_true] at l8
  simp only [List.cons_append, List.nil_append] at N7
  k_steps
  · rename_i z73law_s5n z192law_s5n z193law_s5n z194law_s5n
    revert z0law_s1 z1law_s1 z2law_s1 z3law_s1 z4law_s1 z5law_s1 z6law_s1 z7law_s1 z8law_s1 z9law_s1 z10law_s1 z11law_s1 z12law_s1 z13law_s1 z14law_s1 z15law_s1 z16law_s1 z17law_s1 z18law_s1 z19law_s1 z20law_s1 z21law_s1 z22law_s1 z23law_s1 z24law_s1 z25law_s1 z26law_s1 z27law_s1 z28law_s1 z29law_s1 z30law_s1 z31law_s1 z32law_s1 z33law_s1 z34law_s1 z35law_s1 z36law_s1 z37law_s1 z39law_s1 z40law_s1 z41law_s1 z43law_s1 z44law_s1 z45law_s1 z46law_s1 z47law_s1 z48law_s1 z49law_s1 z50law_s1 z51law_s1 z52law_s1 z53law_s1 z54law_s1 z55law_s1 z56law_s1 z57law_s1 z58law_s1 z59law_s1 z60law_s1 z61law_s2 z62law_s2 z61law_s3n z70law_s1 z71law_s1 z72law_s1 z73law_s1 z74law_s1 z75law_s1 wi lo hi k h z73law_s5n dx st c bag o kl at_ sp mb H T md ac op key cs vc vk ys og om oo ok os t1 tm ta tm2 ta2 td te tf tg top tkey t2 bt u1 u2 ns nst nc bn nk na ni bN R hwk hom homd hoo hood hokm hokd hos hosd hsp hop hksz ho hkl hk hat hS hcs hlen hok hmd hac n1 n2 n3 n4 n5 n6 n7 n8 n9 n10 a1 a2 a3 a4 a5 vg hog m1 m2 m3 m4 m5 m6 m7 m8 m9 m10 qk ek hcl9 hvl9 D9 h9 tk9 ys9 tl9 hc9 hf9 D8 c8 h8 p8 hp8 hpw8 rv8 hX8 l8t l8 z192law_s5n z193law_s5n z194law_s5n tk
    exact hP0.out⟩
noncomputable def law_s6n : {P : Prop // Box P → law_s5n.1} := ⟨_, fun hP0 => by
  w_top off
  unfold law_s5n
  intro z0law_s1 z1law_s1 z2law_s1 z3law_s1 z4law_s1 z5law_s1 z6law_s1 z7law_s1 z8law_s1 z9law_s1 z10law_s1 z11law_s1 z12law_s1 z13law_s1 z14law_s1 z15law_s1 z16law_s1 z17law_s1 z18law_s1 z19law_s1 z20law_s1 z21law_s1 z22law_s1 z23law_s1 z24law_s1 z25law_s1 z26law_s1 z27law_s1 z28law_s1 z29law_s1 z30law_s1 z31law_s1 z32law_s1 z33law_s1 z34law_s1 z35law_s1 z36law_s1 z37law_s1 z39law_s1 z40law_s1 z41law_s1 z43law_s1 z44law_s1 z45law_s1 z46law_s1 z47law_s1 z48law_s1 z49law_s1 z50law_s1 z51law_s1 z52law_s1 z53law_s1 z54law_s1 z55law_s1 z56law_s1 z57law_s1 z58law_s1 z59law_s1 z60law_s1 z61law_s2 z62law_s2 z61law_s3n z70law_s1 z71law_s1 z72law_s1 z73law_s1 z74law_s1 z75law_s1 wi lo hi k h z73law_s5n dx st c bag o kl at_ sp mb H T md ac op key cs vc vk ys og om oo ok os t1 tm ta tm2 ta2 td te tf tg top tkey t2 bt u1 u2 ns nst nc bn nk na ni bN R hwk hom homd hoo hood hokm hokd hos hosd hsp hop hksz ho hkl hk hat hS hcs hlen hok hmd hac n1 n2 n3 n4 n5 n6 n7 n8 n9 n10 a1 a2 a3 a4 a5 vg hog m1 m2 m3 m4 m5 m6 m7 m8 m9 m10 qk ek hcl9 hvl9 D9 h9 tk9 ys9 tl9 hc9 hf9 D8 c8 h8 p8 hp8 hpw8 rv8 hX8 l8t l8 z192law_s5n z193law_s5n z194law_s5n tk
  have hksz4 : key.size < 10000 := by omega
  have hrl8 : rv8.length = cs.length := by rw [hX8.len, List.length_map, hp8.length_eq, List.length_range]
  have hrl9 : rv8.length < 10000 := by omega
  walk_at "my enA"
  refine' en_callA .none (fun _ v (i : Nat) => ∃ t, v = .int (i : Int) t) (fun _ _ _ _ h _ => h) (soAt k cs op key p8) (by rfl) ?eh6 hrl9 (by rfl) (by rfl) (by rfl) (by decide) (by rfl) (by rfl) (by rfl) (by decide) (by k_asm) (by k_asm) ?_ ?_
  (case eh6 => k_mem)
  · intro i9 t9 v9 nx C9 oC9 m9 h9 tk9 E9 hv9 hC9 ha9 hb9 hCm9 hsub9 F9 N9
    obtain ⟨x9, hx9, hr9⟩ := hX8.get' hv9
    rw [List.getElem?_map] at hx9
    obtain ⟨j9, hj9, rfl⟩ := Option.map_eq_some_iff.mp hx9
    obtain ⟨ra9, rt9, ru9, rt9', rn9, rfl, hrm9⟩ := hr9
    have hs9 : ∀ p ∈ tl9, p ∈ nx := fun p hp => hsub9 p (by walk_at "my in")
    replace hrm9 := hs9 _ hrm9
    clear hs9
    have hw9 := row_size (k := k) hok j9 ((SS cs.length).getD j9 0)
    refine enTests_one ?_
    k_steps
    refine Stop.go ?_
    refine Sp.use isso_c (by k_asm) (by k_asm) (by k_asm) (by k_asm) (by k_asm) (by first | exact rfl | assumption) (by ktr_room) (by ktr_units) ?_
    rintro r7 nw7 h7 tk7 F7 N7 ⟨rfl, rfl⟩
    try k_sweep
    k_steps
    refine EtEnd.of (b := soAt k cs op key p8 i9) (by unfold soAt; rw [hj9]; exact isso_sat hop) (by k_asm) (by k_asm) fun hb9 => ⟨hb9, ?_⟩
    k_steps
    exact ⟨_, _, [], rfl, by k_asm, by k_asm, (fun _ h => nomatch h), (fun _ h => nomatch h), ⟨_, rfl⟩⟩
  intro D9 h9 tk9 ys9 tl9b F9 N9 htD9 hoD9 hA9 hc9 hf9
  have N6 := news_drop N9
  clear N9 htD9 hc9 hf9
  rw [hrl8] at hA9
  simp only [LCg.Off1] at hoD9
  repeat (obtain ⟨_, hoD9⟩ := hoD9)
  dsimp only
  · rename_i z171law_s6n z172law_s6n z175law_s6n z176law_s6n z177law_s6n z178law_s6n z209law_s6n z210law_s6n z211law_s6n z212law_s6n z213law_s6n z214law_s6n
    revert z0law_s1 z1law_s1 z2law_s1 z3law_s1 z4law_s1 z5law_s1 z6law_s1 z7law_s1 z8law_s1 z9law_s1 z10law_s1 z11law_s1 z12law_s1 z13law_s1 z14law_s1 z15law_s1 z16law_s1 z17law_s1 z18law_s1 z19law_s1 z20law_s1 z21law_s1 z22law_s1 z23law_s1 z24law_s1 z25law_s1 z26law_s1 z27law_s1 z28law_s1 z29law_s1 z30law_s1 z31law_s1 z32law_s1 z33law_s1 z34law_s1 z35law_s1 z36law_s1 z37law_s1 z39law_s1 z40law_s1 z41law_s1 z43law_s1 z44law_s1 z45law_s1 z46law_s1 z47law_s1 z48law_s1 z49law_s1 z50law_s1 z51law_s1 z52law_s1 z53law_s1 z54law_s1 z55law_s1 z56law_s1 z57law_s1 z58law_s1 z59law_s1 z60law_s1 z61law_s2 z62law_s2 z61law_s3n z70law_s1 z71law_s1 z72law_s1 z73law_s1 z74law_s1 z75law_s1 wi lo hi k h z73law_s5n dx st c bag o kl at_ sp mb H T md ac op key cs vc vk ys og om oo ok os t1 tm ta tm2 ta2 td te tf tg top tkey t2 bt u1 u2 ns nst nc bn nk na ni bN R hwk hom homd hoo hood hokm hokd hos hosd hsp hop hksz ho hkl hk hat hS hcs hlen hok hmd hac n1 n2 n3 n4 n5 n6 n7 n8 n9 n10 a1 a2 a3 a4 a5 vg hog m1 m2 m3 m4 m5 m6 m7 m8 m9 m10 z171law_s6n z172law_s6n hcl9 hvl9 z175law_s6n z176law_s6n z177law_s6n z178law_s6n tl9 hc9 hf9 D8 c8 h8 p8 hp8 hpw8 rv8 hX8 l8t l8 z192law_s5n z193law_s5n z194law_s5n tk hksz4 hrl8 hrl9 qk ek D9 h9 tk9 ys9 tl9b F9 hA9 N6 z209law_s6n z210law_s6n z211law_s6n z212law_s6n z213law_s6n z214law_s6n hoD9
    exact hP0.out⟩
noncomputable def law_s7n : {P : Prop // Box P → law_s6n.1} := ⟨_, fun hP0 => by
  w_top off
  unfold law_s6n
  intro z0law_s1 z1law_s1 z2law_s1 z3law_s1 z4law_s1 z5law_s1 z6law_s1 z7law_s1 z8law_s1 z9law_s1 z10law_s1 z11law_s1 z12law_s1 z13law_s1 z14law_s1 z15law_s1 z16law_s1 z17law_s1 z18law_s1 z19law_s1 z20law_s1 z21law_s1 z22law_s1 z23law_s1 z24law_s1 z25law_s1 z26law_s1 z27law_s1 z28law_s1 z29law_s1 z30law_s1 z31law_s1 z32law_s1 z33law_s1 z34law_s1 z35law_s1 z36law_s1 z37law_s1 z39law_s1 z40law_s1 z41law_s1 z43law_s1 z44law_s1 z45law_s1 z46law_s1 z47law_s1 z48law_s1 z49law_s1 z50law_s1 z51law_s1 z52law_s1 z53law_s1 z54law_s1 z55law_s1 z56law_s1 z57law_s1 z58law_s1 z59law_s1 z60law_s1 z61law_s2 z62law_s2 z61law_s3n z70law_s1 z71law_s1 z72law_s1 z73law_s1 z74law_s1 z75law_s1 wi lo hi k h z73law_s5n dx st c bag o kl at_ sp mb H T md ac op key cs vc vk ys og om oo ok os t1 tm ta tm2 ta2 td te tf tg top tkey t2 bt u1 u2 ns nst nc bn nk na ni bN R hwk hom homd hoo hood hokm hokd hos hosd hsp hop hksz ho hkl hk hat hS hcs hlen hok hmd hac n1 n2 n3 n4 n5 n6 n7 n8 n9 n10 a1 a2 a3 a4 a5 vg hog m1 m2 m3 m4 m5 m6 m7 m8 m9 m10 z171law_s6n z172law_s6n hcl9 hvl9 z175law_s6n z176law_s6n z177law_s6n z178law_s6n tl9 hc9 hf9 D8 c8 h8 p8 hp8 hpw8 rv8 hX8 l8t l8 z192law_s5n z193law_s5n z194law_s5n tk hksz4 hrl8 hrl9 qk ek D9 h9 tk9 ys9 tl9b F9 hA9 N6 z209law_s6n z210law_s6n z211law_s6n z212law_s6n z213law_s6n z214law_s6n hoD9
  have N5 := news_front (news_front (news_front (news_front (news_front N6 6 rfl) 6 rfl) 6 rfl) 6 rfl) 6 rfl
  simp only [List.eraseIdx] at N5
  refine cutr (Half z2law_s1.heap z2law_s1.heap.objs.size z2law_s1) ?_ ?_
  · have Fa := fr_put (fr_put (fr_put (fr_put (fr_put (fr_put (fr_put F9 (x := Str.ofString "bag") rfl) (x := Str.ofString "content") rfl) (x := Str.ofString "access") rfl) (x := Str.ofString "mode") rfl) (x := Str.ofString "which") rfl) (x := Str.ofString "rows") rfl) (x := Str.ofString "so") rfl
    refine' Half.mk (o := o) (vk := vk) (rv := rv8) (nk := nk) (na := na) (c8 := c8) Fa N5 (hwk.imp (fun q => ⟨q.1, q.2.1⟩) (fun q => ⟨q.1, q.2.1⟩)) ⟨vg, hog⟩ ?m1 homd ?m2 hood ?m3 hokd hop hksz ?m4 ?m5 ?m6 ?m7 ?m8 hcs hcl9 hok hmd hac ?m9 hA9 ?mA ?mB hp8 hpw8 ?e1 ?e2 ?e3 ?e4 ?e5 ?e6 ?e7 ?e8 ?e9 ?eA ?b1 ?b2 ?b3 ?b4 ?b5
    (case m1 => walk_at "my mem")
    (case m2 => walk_at "my mem")
    (case m3 => walk_at "my mem")
    (case m4 => walk_at "my mem")
    (case m5 => walk_at "my mem")
    (case m6 => (refine keys_sub hk ?_; walk_at "my sub"))
    (case m7 => walk_at "my mem")
    (case m8 => (refine stamps_sub hS ?_; walk_at "my sub"))
    (case m9 => walk_at "my mem")
    (case mA => walk_at "my mem")
    (case mB => exact hX8.mono fun _ _ q => q.mono (by walk_at "my sub"))
    all_goals (repeat (obtain ⟨_, l8⟩ := l8))
    all_goals first | (k_ne; done) | assumption | exact Ne.symm (by assumption) | skip
    all_goals (repeat (refine List.forall_mem_cons.mpr ⟨?_, ?_⟩; (focus (dsimp only; first | (k_ne; done) | assumption | exact Ne.symm (by assumption) | exact Nat.ne_of_gt (by assumption)))))
    all_goals first | exact all_app (by assumption) (fun q hq => Ne.symm (hf9 q hq (_, _) (by walk_at "my mem")))
  · clear wi lo hi k h z73law_s5n dx st c bag o kl at_ sp mb H T md ac op key cs vc vk ys og om oo ok os t1 tm ta tm2 ta2 td te tf tg top tkey t2 bt u1 u2 ns nst nc bn nk na ni bN R hwk hom homd hoo hood hokm hokd hos hosd hsp hop hksz ho hkl hk hat hS hcs hlen hok hmd hac n1 n2 n3 n4 n5 n6 n7 n8 n9 n10 a1 a2 a3 a4 a5 vg hog m1 m2 m3 m4 m5 m6 m7 m8 m9 m10 z171law_s6n z172law_s6n hcl9 hvl9 z175law_s6n z176law_s6n z177law_s6n z178law_s6n tl9 hc9 hf9 D8 c8 h8 p8 hp8 hpw8 rv8 hX8 l8t l8 z192law_s5n z193law_s5n z194law_s5n tk hksz4 hrl8 hrl9 qk ek D9 h9 tk9 ys9 tl9b F9 hA9 N6 z209law_s6n z210law_s6n z211law_s6n z212law_s6n z213law_s6n z214law_s6n hoD9 N5
    revert z0law_s1 z1law_s1 z2law_s1 z3law_s1 z4law_s1 z5law_s1 z6law_s1 z7law_s1 z8law_s1 z9law_s1 z10law_s1 z11law_s1 z12law_s1 z13law_s1 z14law_s1 z15law_s1 z16law_s1 z17law_s1 z18law_s1 z19law_s1 z20law_s1 z21law_s1 z22law_s1 z23law_s1 z24law_s1 z25law_s1 z26law_s1 z27law_s1 z28law_s1 z29law_s1 z30law_s1 z31law_s1 z32law_s1 z33law_s1 z34law_s1 z35law_s1 z36law_s1 z37law_s1 z39law_s1 z40law_s1 z41law_s1 z43law_s1 z44law_s1 z45law_s1 z46law_s1 z47law_s1 z48law_s1 z49law_s1 z50law_s1 z51law_s1 z52law_s1 z53law_s1 z54law_s1 z55law_s1 z56law_s1 z57law_s1 z58law_s1 z59law_s1 z60law_s1 z61law_s2 z62law_s2 z61law_s3n z70law_s1 z71law_s1 z72law_s1 z73law_s1 z74law_s1 z75law_s1
    exact hP0.out⟩
section
local macro_rules | `(tactic| walk_at "execs cons") => `(tactic| (k_here; (with_reducible show wpAny _ _ (execs (Stmt.If (Expr.BoolOp _ _ _) _ _ _ :: _) _) _ _ _); refine stop_ ?_))
noncomputable def law_s8 : {P : Prop // Box P → law_s7n.1} := ⟨_, fun hP0 => by
  w_top off
  unfold law_s7n
  intro z0law_s1 z1law_s1 z2law_s1 z3law_s1 z4law_s1 z5law_s1 z6law_s1 z7law_s1 z8law_s1 z9law_s1 z10law_s1 z11law_s1 z12law_s1 z13law_s1 z14law_s1 z15law_s1 z16law_s1 z17law_s1 z18law_s1 z19law_s1 z20law_s1 z21law_s1 z22law_s1 z23law_s1 z24law_s1 z25law_s1 z26law_s1 z27law_s1 z28law_s1 z29law_s1 z30law_s1 z31law_s1 z32law_s1 z33law_s1 z34law_s1 z35law_s1 z36law_s1 z37law_s1 z39law_s1 z40law_s1 z41law_s1 z43law_s1 z44law_s1 z45law_s1 z46law_s1 z47law_s1 z48law_s1 z49law_s1 z50law_s1 z51law_s1 z52law_s1 z53law_s1 z54law_s1 z55law_s1 z56law_s1 z57law_s1 z58law_s1 z59law_s1 z60law_s1 z61law_s2 z62law_s2 z61law_s3n z70law_s1 z71law_s1 z72law_s1 z73law_s1 z74law_s1 z75law_s1
  rintro s' @⟨wi, k, h, tk, D9, D8, dx, st, c, bag, o, kl, at_, mb, H, T, md, ac, op, key, cs, vc, vk, ys, rv, sv, og, om, oo, ok, t1, tm, ta, tm2, ta2, tb, td, te, tf, tg, top, tkey, t2, bt, ns, nst, nc, bn, nk, na, c8, bN, R, p8, F0, N0, hwk, ⟨vg, hog⟩, hom, homd, hoo, hood, hokm, hokd, hop, hksz, ho, hkl, hk, hat, hS, hcs, hlen, hcok, hmd, hac, hD9, hsv, hD8, hX, hp8, hpw8, n1, n2, n3, n4, n5, n6, n7, n8, n9, n10, a1, a2, a3, a4, a5⟩
  have m1 := Ne.symm n1
  have m2 := Ne.symm n2
  have m3 := Ne.symm n3
  have m4 := Ne.symm n4
  have m5 := Ne.symm n5
  have m6 := Ne.symm n6
  have m7 := Ne.symm n7
  have m8 := Ne.symm n8
  have m9 := Ne.symm n9
  have m10 := Ne.symm n10
  have hksz4 : key.size < 10000 := by omega
  have hsz : ∀ b ∈ cs, b.size < 10000 := fun b hb => by rw [hcok.size b hb]; decide
  have hmd' : (decide (Str.ofString "input" = md) || decide (Str.ofString "i-o" = md)) = true := by rcases hmd with rfl | rfl <;> decide
  have hac' : ac ≠ Str.ofString "random" := by rcases hac with rfl | rfl <;> decide
  have hw0 : 0 ≤ wi := by rcases hwk with ⟨rfl, rfl⟩ | ⟨rfl, rfl⟩ <;> decide
  have hw1 : wi < 10 := by rcases hwk with ⟨rfl, rfl⟩ | ⟨rfl, rfl⟩ <;> decide
  have hkw : ([(0, 3, false), (3, 1, true)] : List (Int × Int × Bool))[wi.toNat]? = some k := by rcases hwk with ⟨rfl, rfl⟩ | ⟨rfl, rfl⟩ <;> rfl
  have hrl : rv.length = p8.length := by rw [hX.len, List.length_map]
  have hpl : p8.length = cs.length := by rw [hp8.length_eq, List.length_range]
  k_steps
  refine Stop.go ?_
  refine' Sp.use (start_c (rest := (st, listOf ys.toArray nst) :: (c, listOf vc.toArray nc) :: (bag, listOf #[.int bN bt] bn) :: (z2law_s1.heap.objs.size + 1 + 1 + 1 + 1 + 1, og) :: R) (H := H) (T := T) (ns := ns) (md := md) (ac := ac) (kl := kl) (at_ := at_) ?q1 ?q2 ?q3 ?q4 hw0 hw1 hkw ?q5 hcs ?q6 ?q7 SS_len SS_nodup hlen hsz hmd' hac' hop hksz4) (by k_asm) (by k_asm) (by k_asm) (by k_asm) (by k_asm) (by first | exact rfl | assumption) (by ktr_room) (by ktr_units) ?_
  (case q1 => walk_at "my in")
  (case q2 => k_all)
  (case q3 => walk_at "my in")
  (case q4 => (refine keys_sub hk ?_; walk_at "my sub"))
  (case q5 => walk_at "my mem")
  (case q6 => walk_at "my mem")
  (case q7 => (refine stamps_sub hS ?_; walk_at "my sub"))
  rintro r1 nw1 h1 tk1 F1 N1 (⟨i, hi, hsi, hmin, ata, n1', u1, u3, u5, u6, rfl, rfl, hatd, hata⟩ | ⟨hnone, u1, u6, rfl, rfl⟩)
  focus
    try k_sweep
    have hso0 := some_so (pz := soAt k cs op key p8) (sat := fun j => sat op key (kkey k cs (SS cs.length) j).1) hp8 hi hsi (fun b j hb => soAt_at hb)
    rw [hpl] at hso0
    obtain ⟨a0, r0, hso⟩ : ∃ a r, (List.range cs.length).filter (soAt k cs op key p8) = a :: r := by
      cases e : (List.range cs.length).filter (soAt k cs op key p8) with
      | nil => exact absurd e hso0
      | cons a r => exact ⟨a, r, rfl⟩
    have hpa := first_so (pz := soAt k cs op key p8) (sat := fun j => sat op key (kkey k cs (SS cs.length) j).1) hp8 hpw8 hi hsi hmin (fun b j hb => soAt_at hb) (by rw [hpl]; exact hso)
    rw [hso] at hsv
    obtain ⟨v0, hv0, tv0, rfl⟩ := hsv.get (i := 0) rfl
    have hs0 : sv[(0 : Int).toNat]? = some (.int (a0 : Int) tv0) := hv0
    have hsz0 : decide (sv.toArray.size = 0) = false := by
      have := hsv.len
      simp only [List.size_toArray, this, List.length_cons]
      exact decide_eq_false (Nat.succ_ne_zero _)
    simp only [List.forall_mem_cons] at hata
    obtain ⟨x1, x2, x3, x4, x5⟩ := hata
    have y1 := Ne.symm x1
    have y2 := Ne.symm x2
    have y3 := Ne.symm x3
    have y4 := Ne.symm x4
    have y5 := Ne.symm hatd
    k_steps
    refine Stop.go ?_
    rename Fr _ _ _ _ => Fz
    rename News _ _ _ _ => Nz
    have Ny := news_front (news_front (news_front (news_front (news_front Nz 8 rfl) 8 rfl) 8 rfl) 8 rfl) 7 rfl
    simp only [List.eraseIdx] at Ny
    refine cutr (Rd z2law_s1.heap z2law_s1.heap.objs.size z2law_s1) ?_ ?_
    · have Fa := fr_put (fr_put (fr_put (fr_put (fr_put (fr_put (fr_put Fz (x := Str.ofString "bag") rfl) (x := Str.ofString "content") rfl) (x := Str.ofString "access") rfl) (x := Str.ofString "mode") rfl) (x := Str.ofString "which") rfl) (x := Str.ofString "so") rfl) (x := Str.ofString "left") rfl
      have hX' := hX.drop a0
      rw [← List.map_drop] at hX'
      refine' Rd.mk (o := o) (vk := vk) (nk := nk) (sv := sv) (nwb := false) (na := n1') (pos := ((kkey k cs (SS cs.length) i).1, (kkey k cs (SS cs.length) i).2 - 1)) (X := (p8.drop a0).map fun j => row3 k (cs.getD j #[], (SS cs.length).getD j 0)) Fa Ny hwk hwk ⟨vg, hog⟩ ?m1 homd ?m4 ?m5 ?m6 ?m7 ?m8 SS_len SS_nodup hcs hlen hcok hmd hac ?m9 hsz0 ?mB ?mL (fun _ => ⟨rfl, rfl, LeftOk.start SS_len hp8 hpw8 hpa⟩) (fun e => by cases e) n1 n2 n3 n4 n5 n6 n7 n8 n9 n10 ?d1 ?d2 ?d3 ?d4 ?d5 ?b1 ?b2 ?b3 ?b4 ?b5 ?b6
      (case m1 => walk_at "my mem")
      (case m4 => walk_at "my mem")
      (case m5 => walk_at "my mem")
      (case m6 => (refine keys_sub hk ?_; walk_at "my sub"))
      (case m7 => walk_at "my mem")
      (case m8 => (refine stamps_sub hS ?_; walk_at "my sub"))
      (case m9 => walk_at "my mem")
      (case mB => exact hX'.mono fun _ _ q => q.mono (by walk_at "my sub"))
      (case mL => (simp only [List.length_map, List.length_drop]; omega))
      all_goals first | (k_ne; done) | k_all
  rotate_left
  focus
    try k_sweep
    have hso0 := none_so (pz := soAt k cs op key p8) (sat := fun j => sat op key (kkey k cs (SS cs.length) j).1) hp8 (fun b j hb => soAt_at hb) hnone
    rw [hpl] at hso0
    rw [hso0] at hsv
    have hs0 : sv = [] := List.length_eq_zero_iff.mp hsv.len
    subst hs0
    k_steps
    refine Stop.go ?_
    rename Fr _ _ _ _ => Fz
    rename News _ _ _ _ => Nz
    have Ny := news_front (news_front (news_front (news_front (news_front Nz 7 rfl) 7 rfl) 7 rfl) 7 rfl) 7 rfl
    simp only [List.eraseIdx] at Ny
    refine cutr (Rd z2law_s1.heap z2law_s1.heap.objs.size z2law_s1) ?_ ?_
    · have Fa := fr_put (fr_put (fr_put (fr_put (fr_put (fr_put (fr_put Fz (x := Str.ofString "bag") rfl) (x := Str.ofString "content") rfl) (x := Str.ofString "access") rfl) (x := Str.ofString "mode") rfl) (x := Str.ofString "which") rfl) (x := Str.ofString "so") rfl) (x := Str.ofString "left") rfl
      refine' Rd.mk (wr := 0) (kr := (0, 3, false)) (o := o) (vk := vk) (lv := []) (nk := nk) (sv := []) (nwb := true) (na := na) (pos := (#[], -1)) (X := []) Fa Ny hwk (.inl ⟨rfl, rfl⟩) ⟨vg, hog⟩ ?m1z homd ?m4z ?m5z ?m6z ?m7z ?m8z SS_len SS_nodup hcs hlen hcok hmd hac ?m9z rfl All2.nil (by decide) (fun e => by cases e) (fun _ => rfl) n1 n2 n3 n4 n5 n6 n7 n8 n9 n10 ?d1z ?d2z ?d3z ?d4z ?d5z ?b1z ?b2z ?b3z ?b4z ?b5z ?b6z
      (case m1z => walk_at "my mem")
      (case m4z => walk_at "my mem")
      (case m5z => walk_at "my mem")
      (case m6z => (refine keys_sub hk ?_; walk_at "my sub"))
      (case m7z => walk_at "my mem")
      (case m8z => (refine stamps_sub hS ?_; walk_at "my sub"))
      (case m9z => walk_at "my mem")
      all_goals first | (k_ne; done) | k_all
  · rename_i z71law_s8 z190law_s8 z191law_s8 z192law_s8 z194law_s8 z195law_s8 z196law_s8 z197law_s8 z198law_s8 z199law_s8 z200law_s8
    clear wi k h z71law_s8 D9 D8 dx st c bag o kl at_ mb H T md ac op key cs vc vk ys rv og om oo ok t1 tm ta tm2 ta2 tb td te tf tg top tkey t2 bt ns nst nc bn nk na c8 bN R p8 F0 N0 hwk hom homd hoo hood hokm hokd hop hksz ho hkl hk hat hS hcs hlen hcok hmd hac hD8 hX hp8 hpw8 n1 n2 n3 n4 n5 n6 n7 n8 n9 n10 a1 a2 a3 a4 a5 vg hog m1 m2 m3 m4 m5 m6 m7 m8 m9 m10 hksz4 hsz hmd' hac' hw0 hw1 hkw hrl hpl h1 tk1 hnone u1 u6 hso0 hD9 hsv z190law_s8 z191law_s8 z192law_s8 tk z194law_s8 z195law_s8 z196law_s8 z197law_s8 z198law_s8 z199law_s8 z200law_s8 Fz Nz Ny
    revert z0law_s1 z1law_s1 z2law_s1 z3law_s1 z4law_s1 z5law_s1 z6law_s1 z7law_s1 z8law_s1 z9law_s1 z10law_s1 z11law_s1 z12law_s1 z13law_s1 z14law_s1 z15law_s1 z16law_s1 z17law_s1 z18law_s1 z19law_s1 z20law_s1 z21law_s1 z22law_s1 z23law_s1 z24law_s1 z25law_s1 z26law_s1 z27law_s1 z28law_s1 z29law_s1 z30law_s1 z31law_s1 z32law_s1 z33law_s1 z34law_s1 z35law_s1 z36law_s1 z37law_s1 z39law_s1 z40law_s1 z41law_s1 z43law_s1 z44law_s1 z45law_s1 z46law_s1 z47law_s1 z48law_s1 z49law_s1 z50law_s1 z51law_s1 z52law_s1 z53law_s1 z54law_s1 z55law_s1 z56law_s1 z57law_s1 z58law_s1 z59law_s1 z60law_s1 z61law_s2 z62law_s2 z61law_s3n z70law_s1 z71law_s1 z72law_s1 z73law_s1 z74law_s1 z75law_s1
    exact hP0.out
  · rename_i z71law_s8 z217law_s8 z218law_s8 z219law_s8 z221law_s8 z222law_s8 z223law_s8 z224law_s8 z225law_s8 z226law_s8 z227law_s8
    clear wi k h z71law_s8 D9 D8 dx st c bag o kl at_ mb H T md ac op key cs vc vk ys rv sv og om oo ok t1 tm ta tm2 ta2 tb td te tf tg top tkey t2 bt ns nst nc bn nk na c8 bN R p8 F0 N0 hwk hom homd hoo hood hokm hokd hop hksz ho hkl hk hat hS hcs hlen hcok hmd hac hD9 hD8 hX hp8 hpw8 n1 n2 n3 n4 n5 n6 n7 n8 n9 n10 a1 a2 a3 a4 a5 vg hog m1 m2 m3 m4 m5 m6 m7 m8 m9 m10 hksz4 hsz hmd' hac' hw0 hw1 hkw hrl hpl h1 tk1 i hi hsi hmin ata n1' u1 u3 u5 u6 hatd hso0 a0 r0 hsv hso hpa tv0 hv0 hs0 hsz0 x1 x2 x3 x4 x5 y1 y2 y3 y4 y5 z217law_s8 z218law_s8 z219law_s8 tk z221law_s8 z222law_s8 z223law_s8 z224law_s8 z225law_s8 z226law_s8 z227law_s8 Fz Nz Ny
    revert z0law_s1 z1law_s1 z2law_s1 z3law_s1 z4law_s1 z5law_s1 z6law_s1 z7law_s1 z8law_s1 z9law_s1 z10law_s1 z11law_s1 z12law_s1 z13law_s1 z14law_s1 z15law_s1 z16law_s1 z17law_s1 z18law_s1 z19law_s1 z20law_s1 z21law_s1 z22law_s1 z23law_s1 z24law_s1 z25law_s1 z26law_s1 z27law_s1 z28law_s1 z29law_s1 z30law_s1 z31law_s1 z32law_s1 z33law_s1 z34law_s1 z35law_s1 z36law_s1 z37law_s1 z39law_s1 z40law_s1 z41law_s1 z43law_s1 z44law_s1 z45law_s1 z46law_s1 z47law_s1 z48law_s1 z49law_s1 z50law_s1 z51law_s1 z52law_s1 z53law_s1 z54law_s1 z55law_s1 z56law_s1 z57law_s1 z58law_s1 z59law_s1 z60law_s1 z61law_s2 z62law_s2 z61law_s3n z70law_s1 z71law_s1 z72law_s1 z73law_s1 z74law_s1 z75law_s1
    exact hP0.out⟩
end
section
local macro_rules | `(tactic| walk_at "execs cons") => `(tactic| (k_here; (with_reducible show wpAny _ _ (execs (Stmt.For (Expr.Tuple _ _ _) _ _ _ _ :: _) _) _ _ _); refine stop_ ?_))
local macro_rules | `(tactic| walk_at "my pad") => `(tactic| fail)
noncomputable def law_s9 : {P : Prop // Box P → law_s8.1} := ⟨_, fun hP0 => by
  w_top off
  unfold law_s8
  intro z0law_s1 z1law_s1 z2law_s1 z3law_s1 z4law_s1 z5law_s1 z6law_s1 z7law_s1 z8law_s1 z9law_s1 z10law_s1 z11law_s1 z12law_s1 z13law_s1 z14law_s1 z15law_s1 z16law_s1 z17law_s1 z18law_s1 z19law_s1 z20law_s1 z21law_s1 z22law_s1 z23law_s1 z24law_s1 z25law_s1 z26law_s1 z27law_s1 z28law_s1 z29law_s1 z30law_s1 z31law_s1 z32law_s1 z33law_s1 z34law_s1 z35law_s1 z36law_s1 z37law_s1 z39law_s1 z40law_s1 z41law_s1 z43law_s1 z44law_s1 z45law_s1 z46law_s1 z47law_s1 z48law_s1 z49law_s1 z50law_s1 z51law_s1 z52law_s1 z53law_s1 z54law_s1 z55law_s1 z56law_s1 z57law_s1 z58law_s1 z59law_s1 z60law_s1 z61law_s2 z62law_s2 z61law_s3n z70law_s1 z71law_s1 z72law_s1 z73law_s1 z74law_s1 z75law_s1
  rintro s' @⟨wi, wr, k, kr, h, tk, D9, DL, dx, st, c, bag, o, kl, at_, mb, H, T, md, ac, cs, S, vc, vk, ys, lv, sv, og, om, t1, tm, ta, tm2, ta2, td, te, tg, t2, bt, ns, hi, nst, nc, bn, nk, na, nl, bN, R, pos, X, nwb, F0, N0, hwk, hwr, ⟨vg, hog⟩, hom, homd, ho, hkl, hk, hat, hS, hSl, hSn, hcs, hlen, hcok, hmd, hac, hD9, hsv, hX, hXl, hgo, hno, n1, n2, n3, n4, n5, n6, n7, n8, n9, n10, d1, d2, d3, d4, d5, a1, a2, a3, a4, a5, a6⟩
  have m1 := Ne.symm n1
  have m2 := Ne.symm n2
  have m3 := Ne.symm n3
  have m4 := Ne.symm n4
  have m5 := Ne.symm n5
  have m6 := Ne.symm n6
  have m7 := Ne.symm n7
  have m8 := Ne.symm n8
  have m9 := Ne.symm n9
  have m10 := Ne.symm n10
  have e1 := Ne.symm d1
  have e2 := Ne.symm d2
  have e3 := Ne.symm d3
  have e4 := Ne.symm d4
  have e5 := Ne.symm d5
  k_steps
  focus
    rename (md == _) = true => q1
    rename (ac == _) = true => q2
    have q3 := eq_of_beq q1
    have q4 := eq_of_beq q2
    subst q3
    subst q4
    walk_at "my for"
    rename Fr _ _ _ _ => Fz
    rename News _ _ _ _ => Nz
    have Ny := news_front (news_front Nz 1 rfl) 2 rfl
    simp only [List.eraseIdx] at Ny
    refine' range_mut (mu₀ := [_, _, _, _, _, _]) (news := R) (Str.ofString "left") (Str.ofString "left") (fun i pl _ mu => DJ (z2law_s1.heap.objs.size + 1 + 1 + 1 + 1 + 1) dx st c bag kl at_ H T (.str (Str.ofString "i-o") tm2) (.str (Str.ofString "dynamic") ta2) ns (.int wr td) (.bool nwb) hi k pos nwb R pl mu) (by exact rfl) (by assumption) (by omega) Fz Ny ?dA ?dJ ?_ ?_
    (case dA => exact List.forall_mem_cons.mpr ⟨a3, List.forall_mem_cons.mpr ⟨a2, List.forall_mem_cons.mpr ⟨a1, List.forall_mem_cons.mpr ⟨a4, List.forall_mem_cons.mpr ⟨a5, List.forall_mem_cons.mpr ⟨a6, List.forall_mem_nil _⟩⟩⟩⟩⟩⟩)
    (case dJ => exact DJ.mk ⟨vg, hog⟩ hS hSl hSn hcs hlen hcok hX hXl (fun e => (hgo e).2.2) hno d1 d2 d3 d4 d5)
    · rintro i t py pz mu ro h3 tk3 hi3 @⟨DL3, cs3, S3, vc3, ys3, lv3, og3, te3, bt3, nst3, nc3, bn3, nl3, bN3, X3, ⟨vg3, hog3⟩, hS3, hSl3, hSn3, hcs3, hlen3, hcok3, hX3, hXl3, hgo3, hno3, d13, d23, d33, d43, d53⟩ hsub hap F3 N3
      simp only [List.cons_append, List.nil_append] at N3
      have hvl3 : vc3.length < 64 := by have := hcs3.len; omega
      have hvl4 : vc3.length < 10000 := by omega
      have hvl5 : vc3.toArray.size = vc3.length := List.size_toArray
      obtain ⟨g1, hap⟩ := hap.head
      obtain ⟨g2, hap⟩ := hap.head
      obtain ⟨g3, hap⟩ := hap.head
      obtain ⟨g4, hap⟩ := hap.head
      obtain ⟨g5, hap⟩ := hap.head
      obtain ⟨g6, hap⟩ := hap.head
      dsimp only at g1 g2 g3 g4 g5 g6
      have f13 := Ne.symm d13
      have f23 := Ne.symm d23
      have f33 := Ne.symm d33
      have f43 := Ne.symm d43
      have f53 := Ne.symm d53
      k_steps
      · exact MEnd.next (mu := [_, _, _, _, _, _]) (by assumption) (newsSub (by k_asm) (by walk_at "my subs")) (Apart.cons g1 (Apart.cons g2 (Apart.cons g3 (Apart.cons g4 (Apart.cons g5 (Apart.cons g6 Apart.nil)))))) (DJ.mk ⟨vg3, hog3⟩ hS3 hSl3 hSn3 hcs3 hlen3 hcok3 hX3 hXl3 hgo3 hno3 d13 d23 d33 d43 d53) (fun z h1 h2 h3 => by simp [h1, h2])
      rename (_ : Int) < (vc3.length : Int) => hj3
      obtain ⟨b3, t3, hv3, hb3⟩ := vc_at hcs3 hj3
      have hb34 : b3.size < 10000 := by rw [hcok3.size b3 (List.mem_of_getElem? hb3)]; decide
      have hsz3 : ∀ b ∈ cs3, b.size < 10000 := fun b hb => by rw [hcok3.size b hb]; decide
      k_steps
      refine Stop.go ?_
      rename News _ _ _ _ => Nz3
      have Nd := newsSub Nz3 fun p hp => List.mem_cons_of_mem _ hp
      have ho3 := hsub _ ho
      have hkl3 := hsub _ hkl
      have hk3 := keys_sub hk hsub
      refine' Sp.use (delete_c (ks := [(0, 3, false), (3, 1, true)]) (k := (0, 3, false)) ?q1 m5 n2 n1 ?q2 ?q3 ?q4 ?q5 ?q6 rfl hcs3 ?q7 hlen3 hsz3 (by decide)) (by k_asm) (by k_asm) (by k_asm) Nd (by k_asm) (by first | exact rfl | assumption) (by ktr_room) (by ktr_units) ?_
      (case q1 => walk_at "my in")
      (case q2 => k_all)
      (case q3 => k_all)
      (case q4 => k_all)
      (case q5 => walk_at "my in")
      (case q6 => (refine keys_sub hk3 ?_; walk_at "my sub"))
      (case q7 => rw [hS3.len, hSl3, hcs3.len])
      rintro r4 nw4 h4 tk4 F4 N4 (⟨i4, hi4, hci4, _, u1, u2, u3, u4, rfl, rfl⟩ | hbad)
      rotate_left
      · exact (CsOk.pick_in hb3 hbad).elim
      have hij := hcok3.pick_of hb3 hci4
      subst hij
      try k_sweep
      k_steps
      walk_at "my assignT"
      have hlv3 : lv3.length < 10000 := by have := hX3.len; omega
      refine' LCt.CompSrcT.ledger (its := lv3.toArray) (k := nl3) (by rfl) (by k_asm) N4 ?cm (by rw [sizeLine_eq, List.size_toArray]; omega) ?_
      (case cm => walk_at "my mem")
      intro g9
      refine' compT_filter (R := fun l v x => XRow l v x) (l₀ := R) (fun l l' v x h hs => h.mono hs) hX3 ?cl (fun x => !decide (x.2.2 = b3)) (srcAt_led ?cn) ?_ ?_
      (case cl => (intro p9 h9; replace h9 := hsub _ h9; walk_at "my in"))
      (case cn => walk_at "my mem")
      rotate_left
      · intro i9 x9 v9 nx C9 oC9 m9 h9 tk9 E9 hj9 hrow hC hx hmC hsub9 F9 N9
        obtain ⟨ra, rt1, rt2, rt3, rn9, rfl, hrm⟩ := hrow
        k_steps
        refine ⟨_, _, rfl, F9, N9, fun e9 => ⟨e9, ?_⟩, fun e9 => e9⟩
        k_steps
        exact ⟨_, _, rfl, by k_asm, by k_asm, rfl⟩
      · intro ys9 hys9 D9' h9 tk9 F9 N9 o9
        simp only [LCg.Off1] at o9
        obtain ⟨o1, o2, o3, o4, o5, o6, o7⟩ := o9
        dsimp only
        k_steps
        refine' MEnd.next (mu := [_, _, _, _, _, (D9', _)]) (by k_asm) (newsSub N9 ?eN) (Apart.cons g1 (Apart.cons g2 (Apart.cons g3 (Apart.cons g4 (Apart.cons g5 (Apart.cons (off1_all o7) Apart.nil)))))) (DJ.mk ⟨_, by assumption⟩ (hS3.erase i4) (len_erase hSl3 i4) (nodup_erase hSn3 i4) (hcs3.erase i4) (len_erase_lt hlen3) (hcok3.erase i4) hys9 (Nat.lt_of_le_of_lt (List.length_filter_le ..) hXl3) (fun e9 => (hgo3 e9).del' hcok3 hb3) (fun e9 => by rw [hno3 e9]; rfl) (Ne.symm o3) (Ne.symm o2) (Ne.symm o1) (Ne.symm o4) (Ne.symm o5)) (fun z h1 h2 h3 => by simp [h1, h2])
        (case eN => walk_at "my subs")
    rintro px py pz mu h6 tk6 @⟨DL6, cs6, S6, vc6, ys6, lv6, og6, te6, bt6, nst6, nc6, bn6, nl6, bN6, X6, ⟨vg6, hog6⟩, hS6, hSl6, hSn6, hcs6, hlen6, hcok6, hX6, hXl6, hgo6, hno6, d16, d26, d36, d46, d56⟩ hap6 F6 N6
    simp only [List.cons_append, List.nil_append] at N6
    have b6 := hap6.head.2.head.2.head.2.head.2.head.2.head.1
    dsimp only at b6
    dsimp only
    k_steps
    refine Stop.go ?_
    show wpAny _ _ (execs _ _) z61law_s2 z62law_s2 _
    have Ny6 := news_front (news_front N6 1 rfl) 2 rfl
    simp only [List.eraseIdx] at Ny6
    have Fa6 := fr_put (fr_put (fr_put (fr_put (fr_put (fr_put (fr_put F6 (x := Str.ofString "bag") rfl) (x := Str.ofString "content") rfl) (x := Str.ofString "access") rfl) (x := Str.ofString "mode") rfl) (x := Str.ofString "which") rfl) (x := Str.ofString "so") rfl) (x := Str.ofString "left") rfl
    refine cutr (Rd z2law_s1.heap z2law_s1.heap.objs.size z2law_s1) (Rd.mk Fa6 Ny6 hwk hwr ⟨_, hog6⟩ hom homd ho hkl hk hat hS6 hSl6 hSn6 hcs6 hlen6 hcok6 hmd hac hD9 hsv hX6 hXl6 (fun e => ⟨(hgo e).1, (hgo e).2.1, hgo6 e⟩) hno6 n1 n2 n3 n4 n5 n6 n7 n8 n9 n10 d16 d26 d36 d46 d56 a1 a2 a3 a4 a5 b6) ?_
  all_goals first
    | (refine Stop.go ?_; refine cutr (Rd z2law_s1.heap z2law_s1.heap.objs.size z2law_s1) (Rd.mk F0 N0 hwk hwr ⟨_, hog⟩ hom homd ho hkl hk hat hS hSl hSn hcs hlen hcok hmd hac hD9 hsv hX hXl hgo hno n1 n2 n3 n4 n5 n6 n7 n8 n9 n10 d1 d2 d3 d4 d5 a1 a2 a3 a4 a5 a6) ?_)
    | skip
  · rename_i z73law_s9 z181law_s9 z183law_s9 z184law_s9 z185law_s9 z186law_s9 z187law_s9 z188law_s9 z189law_s9 z190law_s9 z191law_s9 z192law_s9 z193law_s9 z196law_s9 z197law_s9 z198law_s9 z199law_s9 z200law_s9 z201law_s9 z204law_s9
    clear wi wr k kr h z73law_s9 D9 DL dx st c bag o kl at_ mb H T cs S vc vk ys lv sv og om t1 tm ta tm2 ta2 td te tg t2 bt ns hi nst nc bn nk na nl bN R pos X nwb hwk hwr hom homd ho hkl hk hat hS hSl hSn hcs hlen hcok hD9 hsv hX hXl hgo hno n1 n2 n3 n4 n5 n6 n7 n8 n9 n10 d1 d2 d3 d4 d5 a1 a2 a3 a4 a5 a6 vg hog m1 m2 m3 m4 m5 m6 m7 m8 m9 m10 e1 e2 e3 e4 e5 tk hmd q1 hac q2 z181law_s9 N0 z183law_s9 z184law_s9 z185law_s9 z186law_s9 z187law_s9 z188law_s9 z189law_s9 z190law_s9 z191law_s9 z192law_s9 z193law_s9 qk ek z196law_s9 z197law_s9 z198law_s9 z199law_s9 z200law_s9 z201law_s9 Fz Nz z204law_s9 Ny px pz h6 tk6 DL6 cs6 S6 vc6 ys6 lv6 og6 te6 bt6 nst6 nc6 bn6 nl6 bN6 X6 hS6 hSl6 hSn6 hcs6 hlen6 hcok6 hX6 hXl6 hgo6 hno6 d16 d26 d36 d46 d56 vg6 hog6 hap6 F6 N6 b6 Ny6 Fa6
    revert z0law_s1 z1law_s1 z2law_s1 z3law_s1 z4law_s1 z5law_s1 z6law_s1 z7law_s1 z8law_s1 z9law_s1 z10law_s1 z11law_s1 z12law_s1 z13law_s1 z14law_s1 z15law_s1 z16law_s1 z17law_s1 z18law_s1 z19law_s1 z20law_s1 z21law_s1 z22law_s1 z23law_s1 z24law_s1 z25law_s1 z26law_s1 z27law_s1 z28law_s1 z29law_s1 z30law_s1 z31law_s1 z32law_s1 z33law_s1 z34law_s1 z35law_s1 z36law_s1 z37law_s1 z39law_s1 z40law_s1 z41law_s1 z43law_s1 z44law_s1 z45law_s1 z46law_s1 z47law_s1 z48law_s1 z49law_s1 z50law_s1 z51law_s1 z52law_s1 z53law_s1 z54law_s1 z55law_s1 z56law_s1 z57law_s1 z58law_s1 z59law_s1 z60law_s1 z61law_s2 z62law_s2 z61law_s3n z70law_s1 z71law_s1 z72law_s1 z73law_s1 z74law_s1 z75law_s1
    exact hP0.out
  · rename_i z73law_s9 z182law_s9 z183law_s9
    clear wi wr k kr h z73law_s9 D9 DL dx st c bag o kl at_ mb H T md ac cs S vc vk ys lv sv og om t1 tm ta tm2 ta2 td te tg t2 bt ns hi nst nc bn nk na nl bN R pos X nwb F0 N0 hwk hwr hom homd ho hkl hk hat hS hSl hSn hcs hlen hcok hmd hac hD9 hsv hX hXl hgo hno n1 n2 n3 n4 n5 n6 n7 n8 n9 n10 d1 d2 d3 d4 d5 a1 a2 a3 a4 a5 a6 vg hog m1 m2 m3 m4 m5 m6 m7 m8 m9 m10 e1 e2 e3 e4 e5 z182law_s9 z183law_s9 tk
    revert z0law_s1 z1law_s1 z2law_s1 z3law_s1 z4law_s1 z5law_s1 z6law_s1 z7law_s1 z8law_s1 z9law_s1 z10law_s1 z11law_s1 z12law_s1 z13law_s1 z14law_s1 z15law_s1 z16law_s1 z17law_s1 z18law_s1 z19law_s1 z20law_s1 z21law_s1 z22law_s1 z23law_s1 z24law_s1 z25law_s1 z26law_s1 z27law_s1 z28law_s1 z29law_s1 z30law_s1 z31law_s1 z32law_s1 z33law_s1 z34law_s1 z35law_s1 z36law_s1 z37law_s1 z39law_s1 z40law_s1 z41law_s1 z43law_s1 z44law_s1 z45law_s1 z46law_s1 z47law_s1 z48law_s1 z49law_s1 z50law_s1 z51law_s1 z52law_s1 z53law_s1 z54law_s1 z55law_s1 z56law_s1 z57law_s1 z58law_s1 z59law_s1 z60law_s1 z61law_s2 z62law_s2 z61law_s3n z70law_s1 z71law_s1 z72law_s1 z73law_s1 z74law_s1 z75law_s1
    exact hP0.out
  · rename_i z73law_s9 z182law_s9
    clear wi wr k kr h z73law_s9 D9 DL dx st c bag o kl at_ mb H T md ac cs S vc vk ys lv sv og om t1 tm ta tm2 ta2 td te tg t2 bt ns hi nst nc bn nk na nl bN R pos X nwb F0 N0 hwk hwr hom homd ho hkl hk hat hS hSl hSn hcs hlen hcok hmd hac hD9 hsv hX hXl hgo hno n1 n2 n3 n4 n5 n6 n7 n8 n9 n10 d1 d2 d3 d4 d5 a1 a2 a3 a4 a5 a6 vg hog m1 m2 m3 m4 m5 m6 m7 m8 m9 m10 e1 e2 e3 e4 e5 z182law_s9 tk
    revert z0law_s1 z1law_s1 z2law_s1 z3law_s1 z4law_s1 z5law_s1 z6law_s1 z7law_s1 z8law_s1 z9law_s1 z10law_s1 z11law_s1 z12law_s1 z13law_s1 z14law_s1 z15law_s1 z16law_s1 z17law_s1 z18law_s1 z19law_s1 z20law_s1 z21law_s1 z22law_s1 z23law_s1 z24law_s1 z25law_s1 z26law_s1 z27law_s1 z28law_s1 z29law_s1 z30law_s1 z31law_s1 z32law_s1 z33law_s1 z34law_s1 z35law_s1 z36law_s1 z37law_s1 z39law_s1 z40law_s1 z41law_s1 z43law_s1 z44law_s1 z45law_s1 z46law_s1 z47law_s1 z48law_s1 z49law_s1 z50law_s1 z51law_s1 z52law_s1 z53law_s1 z54law_s1 z55law_s1 z56law_s1 z57law_s1 z58law_s1 z59law_s1 z60law_s1 z61law_s2 z62law_s2 z61law_s3n z70law_s1 z71law_s1 z72law_s1 z73law_s1 z74law_s1 z75law_s1
    exact hP0.out⟩
end
section
local macro_rules | `(tactic| walk_at "compareOp NotEq ref ref") => `(tactic| refine stop_ ?_)
noncomputable def law_s10 : {P : Prop // Box P → law_s9.1} := ⟨_, fun hP0 => by
  w_top off
  unfold law_s9
  intro z0law_s1 z1law_s1 z2law_s1 z3law_s1 z4law_s1 z5law_s1 z6law_s1 z7law_s1 z8law_s1 z9law_s1 z10law_s1 z11law_s1 z12law_s1 z13law_s1 z14law_s1 z15law_s1 z16law_s1 z17law_s1 z18law_s1 z19law_s1 z20law_s1 z21law_s1 z22law_s1 z23law_s1 z24law_s1 z25law_s1 z26law_s1 z27law_s1 z28law_s1 z29law_s1 z30law_s1 z31law_s1 z32law_s1 z33law_s1 z34law_s1 z35law_s1 z36law_s1 z37law_s1 z39law_s1 z40law_s1 z41law_s1 z43law_s1 z44law_s1 z45law_s1 z46law_s1 z47law_s1 z48law_s1 z49law_s1 z50law_s1 z51law_s1 z52law_s1 z53law_s1 z54law_s1 z55law_s1 z56law_s1 z57law_s1 z58law_s1 z59law_s1 z60law_s1 z61law_s2 z62law_s2 z61law_s3n z70law_s1 z71law_s1 z72law_s1 z73law_s1 z74law_s1 z75law_s1
  rintro s' @⟨wi, wr, k, kr, h, tk, D9, DL, dx, st, c, bag, o, kl, at_, mb, H, T, md, ac, cs, S, vc, vk, ys, lv, sv, og, om, t1, tm, ta, tm2, ta2, td, te, tg, t2, bt, ns, hi, nst, nc, bn, nk, na, nl, bN, R, pos, X, nwb, F0, N0, hwk, hwr, ⟨vg, hog⟩, hom, homd, ho, hkl, hk, hat, hS, hSl, hSn, hcs, hlen, hcok, hmd, hac, hD9, hsv, hX, hXl, hgo, hno, n1, n2, n3, n4, n5, n6, n7, n8, n9, n10, d1, d2, d3, d4, d5, a1, a2, a3, a4, a5, a6⟩
  have m1 := Ne.symm n1
  have m2 := Ne.symm n2
  have m3 := Ne.symm n3
  have m4 := Ne.symm n4
  have hsz : ∀ b ∈ cs, b.size < 10000 := fun b hb => by rw [hcok.size b hb]; decide
  have hmd' : (decide (Str.ofString "input" = md) || decide (Str.ofString "i-o" = md)) = true := by rcases hmd with rfl | rfl <;> decide
  have hac' : ac ≠ Str.ofString "random" := by rcases hac with rfl | rfl <;> decide
  have hw0 : 0 ≤ wr := by rcases hwr with ⟨rfl, rfl⟩ | ⟨rfl, rfl⟩ <;> decide
  have hw1 : wr < 10 := by rcases hwr with ⟨rfl, rfl⟩ | ⟨rfl, rfl⟩ <;> decide
  have hkw : ([(0, 3, false), (3, 1, true)] : List (Int × Int × Bool))[wr.toNat]? = some kr := by rcases hwr with ⟨rfl, rfl⟩ | ⟨rfl, rfl⟩ <;> rfl
  have hvl : lv.length < 10000 := by have := hX.len; omega
  k_steps
  walk_at "my forE"
  rename Fr _ _ _ _ => Fz
  rename News _ _ _ _ => Nz
  refine' enum_mut (mu₀ := [_]) (news := (st, listOf ys.toArray nst) :: (c, listOf vc.toArray nc) :: (bag, listOf #[.int bN bt] bn) :: (z2law_s1.heap.objs.size + 1 + 1 + 1 + 1 + 1, og) :: (DL, listOf lv.toArray nl) :: R) (Str.ofString "is_double") (fun i _ mu => RJ dx c kl st H T (.str md tm2) (.str ac ta2) ns (.int wr td) hi nwb k (cs.zip S) X ((st, listOf ys.toArray nst) :: (c, listOf vc.toArray nc) :: (bag, listOf #[.int bN bt] bn) :: (z2law_s1.heap.objs.size + 1 + 1 + 1 + 1 + 1, og) :: (DL, listOf lv.toArray nl) :: R) i mu) (by rfl) ?lm (by rfl) (by rfl) (by rfl) Fz Nz ?lA ?lJ ?_ ?_
  (case lm => walk_at "my mem")
  (case lA => (refine Apart.cons ?_ Apart.nil; dsimp only; k_all))
  (case lJ => exact RJ.mk (ex := []) (pos := pos) (List.mem_append_right _ (List.mem_cons_of_mem _ (List.mem_cons_of_mem _ (List.mem_cons_of_mem _ (List.mem_cons_of_mem _ (List.mem_cons_of_mem _ hat)))))) (fun e => (hgo e).2.2) (List.forall_mem_nil _))
  · rintro i t v pz mu ro h3 tk3 hv @⟨at3, pos3, rl, ex, tg3, t23, na3, hat3, hgo3, hex3⟩ hsub hap F3 N3
    simp only [List.cons_append] at N3
    obtain ⟨ro2, hro2⟩ : ∃ r, r = ex ++ ro := ⟨_, rfl⟩
    have hsr : ∀ p ∈ ro, p ∈ ro2 := fun p hp => hro2 ▸ List.mem_append_right _ hp
    have hsub2 := fun p hp => hsr p (hsub p hp)
    have hat4 : (at3, tupOf #[.bytes pos3.1 tg3, .int pos3.2 t23] na3) ∈ ro2 := (List.mem_append.mp hat3).elim (fun q => hro2 ▸ List.mem_append_left _ q) (fun q => hsub2 _ q)
    have hap2 : ∀ p ∈ ro2, p.1 ≠ dx := fun p hp => by
      rw [hro2] at hp
      exact (List.mem_append.mp hp).elim (hex3 p) (hap.head.1 p)
    rw [← hro2] at N3
    have hap3 := hap.head.1
    dsimp only at hap3
    clear hro2 hsub hap hat3 hex3 Fz Nz
    obtain ⟨x, hx, ra, rt1, ru1, rt2, rn, rfl, hrm⟩ := hX.get' hv
    have hnb : nwb = false := by
      cases nwb
      · rfl
      · rw [hno rfl] at hx; cases hx
    subst hnb
    obtain ⟨rfl, rfl, _⟩ := hgo rfl
    have hL := hgo3 rfl
    have hil : i < X.length := (List.getElem?_eq_some_iff.mp hx).1
    rw [List.drop_eq_getElem_cons hil, (List.getElem?_eq_some_iff.mp hx).2] at hL
    have hR : ∀ p ∈ R, p ∈ ro2 := fun p hp => hsub2 p (by walk_at "my in")
    replace hrm := hR _ hrm
    have ho3 := hR _ ho
    have hom3 := hR _ hom
    have hkl3 := hR _ hkl
    have hst3 := hsub2 (st, _) (List.Mem.head _)
    have hc3 := hsub2 (c, _) (List.Mem.tail _ (List.Mem.head _))
    have hDL3 := hsub2 (DL, listOf lv.toArray nl) (by walk_at "my mem")
    have hk3 := keys_sub hk hR
    have hS3 := stamps_sub hS hR
    have hXR : ∀ {z : Row3} {v : Value}, XRow R v z → XRow ro2 v z := fun q => q.mono hR
    have hlX := hX.len
    have hwk3 := hwk
    clear hR
    refine mid_assign F3 N3 (Str.ofString "is_double") (.bool (decide (0 < wr ∧ nextIs x.1 (X.drop (i + 1)) = true))) ?_ ?_
    · by_cases hlast : i + 1 < lv.length
      · obtain ⟨z, hz⟩ : ∃ z, X[i + 1]? = some z := ⟨_, List.getElem?_eq_getElem (by omega)⟩
        obtain ⟨v2, hv2, hr2⟩ := hX.get hz
        obtain ⟨ra2, st1, su1, st2, sn, rfl, hrm2⟩ := hXR hr2
        rw [← idx_1 (i := i)] at hv2
        rw [drop_next hz]
        clear hXR
        rcases hwk with ⟨rfl, rfl⟩ | ⟨rfl, rfl⟩
        · k_steps
          all_goals first | trivial | k_asm | (rw [dbl_0]; assumption)
        · k_steps
          all_goals first | trivial | k_asm | (rw [dbl_1]; assumption)
      · rw [drop_last (by omega)]
        clear hXR
        rcases hwk with ⟨rfl, rfl⟩ | ⟨rfl, rfl⟩
        · k_steps
          all_goals first | trivial | k_asm | (rw [dbl_0]; assumption)
        · have hlf : decide ((i : Int) + 1 < (lv.length : Int)) = false := decide_eq_false (by omega)
          k_steps
          all_goals first | trivial | k_asm | (rename Fr _ _ _ _ => Fq; rw [hlf] at Fq; rw [dbl_1]; exact Fq)
    intro h4 tk4 F4 N4
    clear hXR F3 N3
    k_steps
    refine Stop.go ?_
    refine' Sp.use (read_next_c (ks := [(0, 3, false), (3, 1, true)]) (cs := cs) (S := S) (pos := pos3) (an := na3) ho3 hap2 hkl3 hk3 hw0 hw1 hkw hc3 hcs hst3 hS3 hSl hSn hlen hsz hat4 hmd' hac') (by k_asm) (by k_asm) (by k_asm) N4 (by k_asm) (by first | exact rfl | assumption) (by ktr_room) (by ktr_units) ?_
    rintro r5 nw5 h5 tk5 F5 N5 (⟨hb5, _⟩ | ⟨_, hall5, _⟩ | ⟨_, i5, hn5, a5', n5', ata5, n52, u1, u2, u3, u5, u6, rfl, rfl, f1, f2, f3, f4, f5⟩)
    · cases hb5
    · exact (hL.cons_no hall5).elim
    obtain ⟨hL5, hx5, hst5⟩ := hL.turn hSl hcok hwk3 hn5
    try k_sweep
    k_steps
    all_goals
      refine Stop.go ?_
      refine ne_same (by k_asm) (by walk_at "my mem") (by walk_at "my mem") (by ktr_units) (by rw [hst5]; first | exact if_pos (by assumption) | exact if_neg (by assumption)) hx5.symm ?_
      k_steps
      exact MEnd.next (mu := [(dx, _), (ata5, _)]) (by k_asm) (newsSub (by k_asm) (List.forall_mem_cons.mpr ⟨by walk_at "my mem", List.forall_mem_cons.mpr ⟨by walk_at "my mem", fun p9 h9 => by replace h9 := hsr _ h9; walk_at "my in"⟩⟩)) (Apart.cons hap3 (Apart.cons (fun q hq => f5 q (hsr q hq)) Apart.nil)) (RJ.mk (ex := [(ata5, _)]) (pos := fat kr cs S wr i5) (List.mem_append_left _ List.mem_cons_self) (fun _ => hL5) (List.forall_mem_cons.mpr ⟨f2, List.forall_mem_nil _⟩)) (fun z h1 h2 h3 => by simp [h1, h2, h3])
  rintro pb pa pz mu h6 tk6 @⟨at6, pos6, rl6, ex6, tg6, t26, na6, hat6, hgo6, hex6⟩ hap6 F6 N6
  simp only [List.cons_append] at N6
  dsimp only
  show wpAny _ _ (execs _ _) z61law_s2 z62law_s2 _
  have Fa6 := fr_put F6 (x := Str.ofString "so") rfl
  have hR6 : ∀ p ∈ R, p ∈ ex6 ++ (st, listOf ys.toArray nst) :: (c, listOf vc.toArray nc) :: (bag, listOf #[.int bN bt] bn) :: (z2law_s1.heap.objs.size + 1 + 1 + 1 + 1 + 1, og) :: (DL, listOf lv.toArray nl) :: R := fun p hp => List.mem_append_right _ (List.mem_cons_of_mem _ (List.mem_cons_of_mem _ (List.mem_cons_of_mem _ (List.mem_cons_of_mem _ (List.mem_cons_of_mem _ hp)))))
  refine cutr (Fn z2law_s1.heap z2law_s1.heap.objs.size z2law_s1) (Fn.mk (cs := cs) (S := S) (pos := pos6) Fa6 N6 hwr (hR6 _ hom) homd (List.mem_append_right _ List.mem_cons_self) (List.mem_append_right _ (List.mem_cons_of_mem _ List.mem_cons_self)) (hR6 _ ho) (hR6 _ hkl) (keys_sub hk hR6) hat6 (stamps_sub hS hR6) hSl hSn hcs hlen hsz hmd' hac' (hR6 _ hD9) hsv (fun e => ?_) (all_app hex6 hap6.head.1)) ?_
  · have hL6 := hgo6 e
    rw [List.drop_eq_nil_of_le (by rw [hX.len]; exact Nat.le_refl _)] at hL6
    rw [(hgo e).2.1]
    exact hL6.all hSl
  · clear wi wr k kr h tk D9 DL dx st c bag o kl at_ mb H T md ac cs S vc vk ys lv sv og om t1 tm ta tm2 ta2 td te tg t2 bt ns hi nst nc bn nk na nl bN R pos X nwb Fz Nz hwk hwr hom homd ho hkl hk hat hS hSl hSn hcs hlen hcok hmd hac hD9 hsv hX hXl hgo hno n1 n2 n3 n4 n5 n6 n7 n8 n9 n10 d1 d2 d3 d4 d5 a1 a2 a3 a4 a5 a6 vg hog m1 m2 m3 m4 hsz hmd' hac' hw0 hw1 hkw hvl qk ek pb pa pz h6 tk6 at6 pos6 rl6 ex6 tg6 t26 na6 hat6 hgo6 hex6 hap6 F6 N6 Fa6 hR6
    revert z0law_s1 z1law_s1 z2law_s1 z3law_s1 z4law_s1 z5law_s1 z6law_s1 z7law_s1 z8law_s1 z9law_s1 z10law_s1 z11law_s1 z12law_s1 z13law_s1 z14law_s1 z15law_s1 z16law_s1 z17law_s1 z18law_s1 z19law_s1 z20law_s1 z21law_s1 z22law_s1 z23law_s1 z24law_s1 z25law_s1 z26law_s1 z27law_s1 z28law_s1 z29law_s1 z30law_s1 z31law_s1 z32law_s1 z33law_s1 z34law_s1 z35law_s1 z36law_s1 z37law_s1 z39law_s1 z40law_s1 z41law_s1 z43law_s1 z44law_s1 z45law_s1 z46law_s1 z47law_s1 z48law_s1 z49law_s1 z50law_s1 z51law_s1 z52law_s1 z53law_s1 z54law_s1 z55law_s1 z56law_s1 z57law_s1 z58law_s1 z59law_s1 z60law_s1 z61law_s2 z62law_s2 z61law_s3n z70law_s1 z71law_s1 z72law_s1 z73law_s1 z74law_s1 z75law_s1
    exact hP0.out⟩
end
section
local macro_rules | `(tactic| walk_at "compareOp Eq ref ref") => `(tactic| first | (k_here; k_dflt (refine' eq_nil ?k1 ?k2 ?k3 ?k4 ?_; (case k1 => k_asm); (case k2 | k3 => k_mem); (case k4 => ktr_units); k_whole)) | refine stop_ ?_)
local macro_rules | `(tactic| walk_at "my pad") => `(tactic| fail)
theorem law_s11 : law_s10.1 := by
  w_top off
  unfold law_s10
  intro z0law_s1 z1law_s1 z2law_s1 z3law_s1 z4law_s1 z5law_s1 z6law_s1 z7law_s1 z8law_s1 z9law_s1 z10law_s1 z11law_s1 z12law_s1 z13law_s1 z14law_s1 z15law_s1 z16law_s1 z17law_s1 z18law_s1 z19law_s1 z20law_s1 z21law_s1 z22law_s1 z23law_s1 z24law_s1 z25law_s1 z26law_s1 z27law_s1 z28law_s1 z29law_s1 z30law_s1 z31law_s1 z32law_s1 z33law_s1 z34law_s1 z35law_s1 z36law_s1 z37law_s1 z39law_s1 z40law_s1 z41law_s1 z43law_s1 z44law_s1 z45law_s1 z46law_s1 z47law_s1 z48law_s1 z49law_s1 z50law_s1 z51law_s1 z52law_s1 z53law_s1 z54law_s1 z55law_s1 z56law_s1 z57law_s1 z58law_s1 z59law_s1 z60law_s1 z61law_s2 z62law_s2 z61law_s3n z70law_s1 z71law_s1 z72law_s1 z73law_s1 z74law_s1 z75law_s1
  rintro s' @⟨wr, k, h, tk, D9, dx, st, c, o, kl, at_, mb, H, T, md, ac, cs, S, vc, vk, ys, sv, om, tm2, ta2, td, tg, t2, ns, rl, hi, nst, nc, nk, na, R, pos, nwb, F0, N0, hwr, hom, homd, hst, hc, ho, hkl, hk, hat, hS, hSl, hSn, hcs, hlen, hsz, hmd, hac, hD9, hsv, hgo, a1⟩
  have hw0 : 0 ≤ wr := by rcases hwr with ⟨rfl, rfl⟩ | ⟨rfl, rfl⟩ <;> decide
  have hw1 : wr < 10 := by rcases hwr with ⟨rfl, rfl⟩ | ⟨rfl, rfl⟩ <;> decide
  have hkw : ([(0, 3, false), (3, 1, true)] : List (Int × Int × Bool))[wr.toNat]? = some k := by rcases hwr with ⟨rfl, rfl⟩ | ⟨rfl, rfl⟩ <;> rfl
  cases nwb
  · k_steps
    rename Fr _ _ _ _ => Fz
    rename News _ _ _ _ => Nz
    have Ny := news_front Nz 4 rfl
    simp only [List.eraseIdx] at Ny
    obtain ⟨R2, hR2, N2⟩ := led_pack Ny
    have hE := led_at hR2 0 rfl
    have hT1 := led_at hR2 1 rfl
    have hT2 := led_at hR2 2 rfl
    have hRR : ∀ p ∈ R, p ∈ R2 := fun p hp => hR2 ▸ List.mem_cons_of_mem _ (List.mem_cons_of_mem _ (List.mem_cons_of_mem _ (List.mem_cons_of_mem _ (hp))))
    have a2 : ∀ p ∈ R2, p.1 ≠ dx := by
      rw [hR2]
      k_all
    clear hR2 Nz Ny
    have hom2 := hRR _ hom
    have hst2 := hRR _ hst
    have hc2 := hRR _ hc
    have ho2 := hRR _ ho
    have hkl2 := hRR _ hkl
    have hat2 := hRR _ hat
    have hk2 := keys_sub hk hRR
    have hS2 := stamps_sub hS hRR
    walk_at "my compU"
    refine LCg.CompSrc.ledger (by rfl) (by k_asm) N2 (List.mem_cons_of_mem _ hE) (by rw [sizeLine_eq]; exact Nat.le_of_ble_eq_true rfl) ?_
    intro g9
    refine LCg.CompRest.succ ?_
    intro v1 I1 oI1 C1 oC1 D1 mm1 h1 tk1 E1 hP1 hC1 hx1 F1 N1 off1 ne1
    have od1 := off1.mem (dx, _) (List.mem_cons_self)
    have ia1 := Ne.symm od1.1
    have ib1 := Ne.symm od1.2.1
    have ic1 := Ne.symm od1.2.2
    dsimp only at od1 ia1 ib1 ic1
    k_steps
    refine Stop.go ?_
    have Nf1 := news_front N1 3 rfl
    simp only [List.eraseIdx] at Nf1
    refine' Sp.use (read_next_c (ks := [(0, 3, false), (3, 1, true)]) (cs := cs) (S := S) (pos := pos) (an := na) ?qa1 ?qb1 ?qc1 ?qd1 hw0 hw1 hkw ?qe1 hcs ?qf1 ?qg1 hSl hSn hlen hsz ?qh1 hmd hac) (by k_asm) (by k_asm) (by k_asm) Nf1 (by k_asm) (by first | exact rfl | assumption) (by ktr_room) (by ktr_units) ?_
    (case qa1 => walk_at "my in")
    (case qb1 => k_all)
    (case qc1 => walk_at "my in")
    (case qd1 => (refine keys_sub hk2 ?_; walk_at "my sub"))
    (case qe1 => walk_at "my in")
    (case qf1 => walk_at "my in")
    (case qg1 => (refine stamps_sub hS2 ?_; walk_at "my sub"))
    (case qh1 => walk_at "my in")
    rintro r1 nw1 g1 tg1 Fg1 Ng1 (⟨hb1, _⟩ | ⟨_, _, x1, n1, u1a, u1b, u1c, rfl, rfl, f1, f1b⟩ | ⟨_, i1, hn1, _⟩)
    · cases hb1
    rotate_left
    · exact absurd hn1.2.1 (by rw [hgo rfl i1 hn1.1]; decide)
    try k_sweep
    k_steps
    have fa1 := f1b (I1, oI1) List.mem_cons_self
    have fb1 := f1b (C1, oC1) (List.mem_cons_of_mem _ List.mem_cons_self)
    have fc1 := f1b (D1, _) (List.mem_cons_of_mem _ (List.mem_cons_of_mem _ List.mem_cons_self))
    refine LCg.CompEnd.intro (by k_asm) Ng1 ((x1, _) :: (dx, _) :: R2) (by walk_at "my subs") (off3_of (List.forall_mem_cons.mpr ⟨⟨Ne.symm fa1, Ne.symm fb1, Ne.symm fc1⟩, List.forall_mem_cons.mpr ⟨od1, fun p hp => off1.mem p (List.mem_cons_of_mem _ (hp))⟩⟩)) (srcAt_led (List.mem_cons_of_mem _ (List.mem_cons_of_mem _ (hE)))) ?_
    refine LCg.CompRest.succ ?_
    intro v2 I2 oI2 C2 oC2 D2 mm2 h2 tk2 E2 hP2 hC2 hx2 F2 N2 off2 ne2
    have od2 := off2.mem (dx, _) (List.mem_cons_of_mem _ (List.mem_cons_self))
    have ia2 := Ne.symm od2.1
    have ib2 := Ne.symm od2.2.1
    have ic2 := Ne.symm od2.2.2
    dsimp only at od2 ia2 ib2 ic2
    k_steps
    refine Stop.go ?_
    have Nf2 := news_front N2 4 rfl
    simp only [List.eraseIdx] at Nf2
    refine' Sp.use (read_next_c (ks := [(0, 3, false), (3, 1, true)]) (cs := cs) (S := S) (pos := pos) (an := na) ?qa2 ?qb2 ?qc2 ?qd2 hw0 hw1 hkw ?qe2 hcs ?qf2 ?qg2 hSl hSn hlen hsz ?qh2 hmd hac) (by k_asm) (by k_asm) (by k_asm) Nf2 (by k_asm) (by first | exact rfl | assumption) (by ktr_room) (by ktr_units) ?_
    (case qa2 => walk_at "my in")
    (case qb2 => k_all)
    (case qc2 => walk_at "my in")
    (case qd2 => (refine keys_sub hk2 ?_; walk_at "my sub"))
    (case qe2 => walk_at "my in")
    (case qf2 => walk_at "my in")
    (case qg2 => (refine stamps_sub hS2 ?_; walk_at "my sub"))
    (case qh2 => walk_at "my in")
    rintro r2 nw2 g2 tg2 Fg2 Ng2 (⟨_, x2, n2, u2a, u2b, u2c, rfl, rfl, f2, f2b⟩ | ⟨hb2, _⟩ | ⟨hb2, _⟩)
    rotate_left
    · cases hb2
    · cases hb2
    try k_sweep
    k_steps
    have fa2 := f2b (I2, oI2) List.mem_cons_self
    have fb2 := f2b (C2, oC2) (List.mem_cons_of_mem _ List.mem_cons_self)
    have fc2 := f2b (D2, _) (List.mem_cons_of_mem _ (List.mem_cons_of_mem _ List.mem_cons_self))
    refine LCg.CompEnd.intro (by k_asm) Ng2 ((x2, _) :: (x1, _) :: (dx, _) :: R2) (by walk_at "my subs") (off3_of (List.forall_mem_cons.mpr ⟨⟨Ne.symm fa2, Ne.symm fb2, Ne.symm fc2⟩, List.forall_mem_cons.mpr ⟨off2.mem (x1, _) (List.mem_cons_self), List.forall_mem_cons.mpr ⟨od2, fun p hp => off2.mem p (List.mem_cons_of_mem _ (List.mem_cons_of_mem _ (hp)))⟩⟩⟩)) (srcAt_led (List.mem_cons_of_mem _ (List.mem_cons_of_mem _ (List.mem_cons_of_mem _ (hE))))) ?_
    refine LCg.CompRest.zero ?_
    intro D8 h8 tk8 F8 N8 o8
    simp only [List.nil_append, List.cons_append] at N8
    dsimp only
    k_steps
    refine Stop.go ?_
    refine eq_rows2 N8 (List.mem_cons_self) (List.mem_cons_of_mem _ (List.mem_cons_of_mem _ (List.mem_cons_of_mem _ (List.mem_cons_of_mem _ (hE))))) (List.mem_cons_of_mem _ (List.mem_cons_of_mem _ List.mem_cons_self)) (List.mem_cons_of_mem _ (List.mem_cons_of_mem _ (List.mem_cons_of_mem _ (List.mem_cons_of_mem _ (hT2))))) (List.mem_cons_of_mem _ List.mem_cons_self) (List.mem_cons_of_mem _ (List.mem_cons_of_mem _ (List.mem_cons_of_mem _ (List.mem_cons_of_mem _ (hT1))))) (by ktr_units) ?_
    k_steps
  k_steps
  rename Fr _ _ _ _ => Fz
  rename News _ _ _ _ => Nz
  have Ny := news_front Nz 3 rfl
  simp only [List.eraseIdx] at Ny
  obtain ⟨R2, hR2, N2⟩ := led_pack Ny
  have hE := led_at hR2 0 rfl
  have hT1 := led_at hR2 1 rfl
  have hRR : ∀ p ∈ R, p ∈ R2 := fun p hp => hR2 ▸ List.mem_cons_of_mem _ (List.mem_cons_of_mem _ (List.mem_cons_of_mem _ (hp)))
  have a2 : ∀ p ∈ R2, p.1 ≠ dx := by
    rw [hR2]
    k_all
  clear hR2 Nz Ny
  have hom2 := hRR _ hom
  have hst2 := hRR _ hst
  have hc2 := hRR _ hc
  have ho2 := hRR _ ho
  have hkl2 := hRR _ hkl
  have hat2 := hRR _ hat
  have hk2 := keys_sub hk hRR
  have hS2 := stamps_sub hS hRR
  walk_at "my compU"
  refine LCg.CompSrc.ledger (by rfl) (by k_asm) N2 (List.mem_cons_of_mem _ hE) (by rw [sizeLine_eq]; exact Nat.le_of_ble_eq_true rfl) ?_
  intro g9
  refine LCg.CompRest.succ ?_
  intro v3 I3 oI3 C3 oC3 D3 mm3 h3 tk3 E3 hP3 hC3 hx3 F3 N3 off3 ne3
  have od3 := off3.mem (dx, _) (List.mem_cons_self)
  have ia3 := Ne.symm od3.1
  have ib3 := Ne.symm od3.2.1
  have ic3 := Ne.symm od3.2.2
  dsimp only at od3 ia3 ib3 ic3
  k_steps
  refine Stop.go ?_
  have Nf3 := news_front N3 3 rfl
  simp only [List.eraseIdx] at Nf3
  refine' Sp.use (read_next_c (ks := [(0, 3, false), (3, 1, true)]) (cs := cs) (S := S) (pos := pos) (an := na) ?qa3 ?qb3 ?qc3 ?qd3 hw0 hw1 hkw ?qe3 hcs ?qf3 ?qg3 hSl hSn hlen hsz ?qh3 hmd hac) (by k_asm) (by k_asm) (by k_asm) Nf3 (by k_asm) (by first | exact rfl | assumption) (by ktr_room) (by ktr_units) ?_
  (case qa3 => walk_at "my in")
  (case qb3 => k_all)
  (case qc3 => walk_at "my in")
  (case qd3 => (refine keys_sub hk2 ?_; walk_at "my sub"))
  (case qe3 => walk_at "my in")
  (case qf3 => walk_at "my in")
  (case qg3 => (refine stamps_sub hS2 ?_; walk_at "my sub"))
  (case qh3 => walk_at "my in")
  rintro r3 nw3 g3 tg3 Fg3 Ng3 (⟨_, x1, n3, u3a, u3b, u3c, rfl, rfl, f3, f3b⟩ | ⟨hb3, _⟩ | ⟨hb3, _⟩)
  rotate_left
  · cases hb3
  · cases hb3
  try k_sweep
  k_steps
  have fa3 := f3b (I3, oI3) List.mem_cons_self
  have fb3 := f3b (C3, oC3) (List.mem_cons_of_mem _ List.mem_cons_self)
  have fc3 := f3b (D3, _) (List.mem_cons_of_mem _ (List.mem_cons_of_mem _ List.mem_cons_self))
  refine LCg.CompEnd.intro (by k_asm) Ng3 ((x1, _) :: (dx, _) :: R2) (by walk_at "my subs") (off3_of (List.forall_mem_cons.mpr ⟨⟨Ne.symm fa3, Ne.symm fb3, Ne.symm fc3⟩, List.forall_mem_cons.mpr ⟨od3, fun p hp => off3.mem p (List.mem_cons_of_mem _ (hp))⟩⟩)) (srcAt_led (List.mem_cons_of_mem _ (List.mem_cons_of_mem _ (hE)))) ?_
  refine LCg.CompRest.zero ?_
  intro D8 h8 tk8 F8 N8 o8
  simp only [List.nil_append, List.cons_append] at N8
  dsimp only
  k_steps
  refine Stop.go ?_
  refine eq_rows1 N8 (List.mem_cons_self) (List.mem_cons_of_mem _ (List.mem_cons_of_mem _ (List.mem_cons_of_mem _ (hE)))) (List.mem_cons_of_mem _ List.mem_cons_self) (List.mem_cons_of_mem _ (List.mem_cons_of_mem _ (List.mem_cons_of_mem _ (hT1)))) (by ktr_units) ?_
  k_steps
end
end Mine
theorem PySem.Challenge.cw_pc0127_01_holds : PySem.Challenge.rw_pc0127_01.Holds :=
  have h5 : Mine.law_s4na.1 := Mine.law_s5n.2 ⟨Mine.law_s6n.2 ⟨Mine.law_s7n.2 ⟨Mine.law_s8.2 ⟨Mine.law_s9.2 ⟨Mine.law_s10.2 ⟨Mine.law_s11⟩⟩⟩⟩⟩⟩
  Mine.law_s1.2 ⟨Mine.law_s2.2 ⟨Mine.law_s3.2 ⟨Mine.law_s3n.2 ⟨Mine.law_s4na.2 ⟨h5⟩⟩ ⟨Mine.law_s4nb.2 ⟨h5⟩⟩⟩⟩⟩
