import PyProof.Rows.All
import Wide.All
import OpenK.AllK
import Wide.FinOn
import KE.KStateDown
import HandS.ForMost
import HandS.More
import HandS.Defaults
import HandS.Head0
import HandS.Head1
import HandS.Head2
import HandS.HeadHook4
import HandS.EndBits
import HandS.IsInst
import HandS.TupAny
import KE.KIntText
import HandS.Zip
import KE.KeyNested
import KE.LtData
import HandS.DictTup
import KE.KDictKeyed
import HandS.Dict
import HandS.SortOrd
import KE.KSortTup
import KE.KDictSum
import KE.KDictCopyH
import KE.KDictPairs
import HandS.CallLocal
import HandS.WideBits
import HandS.TupLe
import PyProof.ReprRoads
import HandS.HeadEnd
import HandS.Ends
import PySem.Challenge.RW_changewise_k24_whole_settled_alike_and_n
/-! part CwTop -/
set_option Elab.async false
set_option linter.all false
set_option maxRecDepth 100000
/-! The text by places. -/
namespace Cw
open PySem L2
def topS (i : Nat) : Stmt := PySem.Challenge.pw_changewise_k24_whole_settled_alike_and_n.main.body.getD i (.Pass ⟨0, 0, 0, 0⟩)
abbrev s_is_whole : Stmt := topS 1
abbrev s_is_kinded : Stmt := topS 5
abbrev s_is_plain : Stmt := topS 6
abbrev s_is_data : Stmt := topS 7
abbrev s_is_valued : Stmt := topS 8
abbrev s_is_counted : Stmt := topS 9
abbrev s_are_counted : Stmt := topS 10
abbrev s_is_paired : Stmt := topS 12
abbrev s_bag_by : Stmt := topS 13
abbrev s_sum_of_bags : Stmt := topS 14
abbrev s_plus_by : Stmt := topS 15
abbrev s_times_by : Stmt := topS 16
abbrev s_is_side : Stmt := topS 18
abbrev s_is_change_by : Stmt := topS 19
abbrev s_part_kind : Stmt := topS 20
abbrev s_fits_by : Stmt := topS 21
abbrev s_led_by : Stmt := topS 22
abbrev s_less_by : Stmt := topS 23
abbrev s_settled_by : Stmt := topS 24
abbrev s_check_kind_that : Stmt := topS 32
abbrev s_check_data : Stmt := topS 33
abbrev s_check_value : Stmt := topS 34
abbrev s_check_valued : Stmt := topS 36
abbrev s_check_change : Stmt := topS 37
abbrev s_check_fitting : Stmt := topS 38
abbrev s_settled : Stmt := topS 39
abbrev s_are_alike : Stmt := topS 40
abbrev s_changes_nothing : Stmt := topS 41
abbrev s_law_urn : Stmt := topS 43
abbrev s_law_pull : Stmt := topS 44
abbrev s_law_one : Stmt := topS 45
abbrev s_law_is : Stmt := topS 46
abbrev s_law_truth : Stmt := topS 47
abbrev s_law_plain_kind : Stmt := topS 48
abbrev s_law_data_kind : Stmt := topS 49
abbrev s_law_bag : Stmt := topS 50
abbrev s_law_whole : Stmt := topS 51
abbrev s_law_value : Stmt := topS 52
abbrev s_law_plus : Stmt := topS 53
abbrev s_law_many : Stmt := topS 54
abbrev s_law_d : Stmt := topS 55
abbrev s_law_fits : Stmt := topS 56
abbrev s_law_led : Stmt := topS 57
abbrev s_law_less : Stmt := topS 58
abbrev s_law_change : Stmt := topS 59
abbrev s_law_still : Stmt := topS 60
abbrev s_law_otherwise : Stmt := topS 61
abbrev s_law_right : Stmt := topS 62
abbrev s_law : Stmt := topS 63
end Cw
/-! part CwHead -/
set_option Elab.async false
set_option linter.all false
set_option maxRecDepth 100000
set_option maxHeartbeats 0
/-! The head, by one kernel run for each answer of the row that it asks. -/
namespace Cw
open PySem PySem.Spec PyProof.Rows L2
def dD (x : Str) (st : Stmt) (dfl : List He.Dv) : He.DefD := ⟨(x, none), x, x, defArgs st, defBody st, defScope st, dfl, []⟩
def fn : List He.DefD := [dD "is_whole" s_is_whole [],
  dD "is_kinded" s_is_kinded [.int 100],
  dD "is_plain" s_is_plain [],
  dD "is_data" s_is_data [],
  dD "is_valued" s_is_valued [],
  dD "is_counted" s_is_counted [],
  dD "are_counted" s_are_counted [],
  dD "is_paired" s_is_paired [],
  dD "bag_by" s_bag_by [],
  dD "sum_of_bags" s_sum_of_bags [],
  dD "plus_by" s_plus_by [],
  dD "times_by" s_times_by [],
  dD "is_side" s_is_side [],
  dD "is_change_by" s_is_change_by [],
  dD "part_kind" s_part_kind [],
  dD "fits_by" s_fits_by [],
  dD "led_by" s_led_by [],
  dD "less_by" s_less_by [],
  dD "settled_by" s_settled_by [],
  dD "check_kind_that" s_check_kind_that [],
  dD "check_data" s_check_data [],
  dD "check_value" s_check_value [],
  dD "check_valued" s_check_valued [],
  dD "check_change" s_check_change [],
  dD "check_fitting" s_check_fitting [],
  dD "settled" s_settled [],
  dD "are_alike" s_are_alike [],
  dD "changes_nothing" s_changes_nothing [],
  dD "_law_urn" s_law_urn [],
  dD "_law_pull" s_law_pull [],
  dD "_law_one" s_law_one [],
  dD "_law_is" s_law_is [],
  dD "_law_truth" s_law_truth [],
  dD "_law_plain_kind" s_law_plain_kind [],
  dD "_law_data_kind" s_law_data_kind [],
  dD "_law_bag" s_law_bag [],
  dD "_law_whole" s_law_whole [],
  dD "_law_value" s_law_value [],
  dD "_law_plus" s_law_plus [],
  dD "_law_many" s_law_many [],
  dD "_law_d" s_law_d [],
  dD "_law_fits" s_law_fits [],
  dD "_law_led" s_law_led [],
  dD "_law_less" s_law_less [],
  dD "_law_change" s_law_change [],
  dD "_law_still" s_law_still [],
  dD "_law_otherwise" s_law_otherwise [],
  dD "_law_right" s_law_right [],
  dD "law" s_law []]
def faA : List He.Fa := [.glo "is_whole", .glo "is_kinded", .glo "is_plain", .glo "is_data", .glo "is_valued", .glo "is_counted", .glo "are_counted", .glo "is_paired", .glo "bag_by", .glo "sum_of_bags", .glo "plus_by", .glo "times_by", .glo "is_side", .glo "is_change_by", .glo "part_kind", .glo "fits_by", .glo "led_by", .glo "less_by", .glo "settled_by", .glo "check_kind_that", .glo "check_data", .glo "check_value", .glo "check_valued", .glo "check_change", .glo "check_fitting"]
def faB : List He.Fa := [.glo "settled", .glo "are_alike", .glo "changes_nothing", .glo "_law_urn", .glo "_law_pull", .glo "_law_one", .glo "_law_is", .glo "_law_truth", .glo "_law_plain_kind", .glo "_law_data_kind", .glo "_law_bag", .glo "_law_whole", .glo "_law_value", .glo "_law_plus", .glo "_law_many", .glo "_law_d", .glo "_law_fits", .glo "_law_led", .glo "_law_less", .glo "_law_change", .glo "_law_still", .glo "_law_otherwise", .glo "_law_right", .glo "law"]
def faC : List He.Fa := [.glo "KIND_SIZES", .free "isinstance", .free "int", .free "bool", .free "tuple", .free "str", .free "len", .free "all", .free "zip", .free "sorted", .free "dict", .free "list", .free "range", .free "repr", .free "abs", .free "divmod", .free "max", .free "min"]
def fa : List He.Fa := faA ++ faB ++ faC
def sizes : List (Str × Nat) := [("unit", 1), ("num", 1), ("pair", 3), ("either", 3), ("bag", 2), ("fun", 3)]
def ts : List He.Tab := [(fun K => He.ga K "KIND_SIZES", sizes.map (·.1))]
def ex (K : PySem.W.Frag) : Bool := He.valsB K (He.ga K "KIND_SIZES") (sizes.map fun q => (q.1, .int q.2))
abbrev R : PySem.W.OpenRow := PySem.W.OpenLaw.row PySem.Challenge.rw_changewise_k24_whole_settled_alike_and_n
abbrev hk : PySem.W.Hook := He.hookX 4 fa fn ts [] ex
def ob (s : PySem.W.SharedT) : He.AlX := He.obsX 4 fa fn ts [] ex (HandSHeadRun.getT s)
theorem ob_eq (s : PySem.W.SharedT) : ob s = hk.obs s.abs := He.obsX_eq (HandSHeadRun.getT_eq s)
def loose0 : List Str := ["ChangeError", "InvalidKind", "InvalidValue", "InvalidChange", "NotFitting", "is_whole", "is_kinded", "is_plain", "is_data", "is_valued", "is_counted", "are_counted", "is_paired", "bag_by", "sum_of_bags", "plus_by", "times_by", "is_side", "is_change_by", "part_kind", "fits_by", "led_by", "less_by", "settled_by", "check_kind_that", "check_data", "check_value", "check_valued", "check_change", "check_fitting"]
def loose1 : List Str := ["settled", "are_alike", "changes_nothing", "_law_urn", "_law_pull", "_law_one", "_law_is", "_law_truth", "_law_plain_kind", "_law_data_kind", "_law_bag", "_law_whole", "_law_value", "_law_plus", "_law_many", "_law_d", "_law_fits", "_law_led", "_law_less", "_law_change", "_law_still", "_law_otherwise", "_law_right", "KIND_SIZES", "MOST_KIND_DEEP"]
def loose : List Str := loose0 ++ loose1
theorem runF (w : World) : HandSHeadRun.RunEq R (PySem.W.view R.prog [63]) hk ob 4000 loose (w.withFollow "special-get-raises" false) := by
  intro os
  kernel_rfl
theorem runT (w : World) : HandSHeadRun.RunEq R (PySem.W.view R.prog [63]) hk ob 4000 loose (w.withFollow "special-get-raises" true) := by
  intro os
  kernel_rfl
theorem run (w : World) : HandSHeadRun.RunEq R (PySem.W.view R.prog [63]) hk ob 4000 loose w := PySem.W.byRow2 "special-get-raises" (P := fun w => HandSHeadRun.RunEq R (PySem.W.view R.prog [63]) hk ob 4000 loose w) runF runT w
end Cw
/-! part CwBag -/
set_option autoImplicit false
set_option linter.all false
/-! Bags over a strictly ordered type: canonical lists of pairs (value, times). Plain Lean. -/
namespace Cw
section
variable {A : Type} [DecidableEq A]
structure SOrd (lt : A → A → Bool) : Prop where
  irr : ∀ x, lt x x = false
  trn : ∀ x y z, lt x y = true → lt y z = true → lt x z = true
  tri : ∀ x y, x ≠ y → lt x y = true ∨ lt y x = true
def cnt (l : List (A × Int)) (x : A) : Int := (l.map fun p => if p.1 = x then p.2 else 0).sum
theorem cnt_nil (x : A) : cnt ([] : List (A × Int)) x = 0 := rfl
theorem cnt_cons (p : A × Int) (l : List (A × Int)) (x : A) : cnt (p :: l) x = (if p.1 = x then p.2 else 0) + cnt l x := rfl
theorem cnt_append (l m : List (A × Int)) (x : A) : cnt (l ++ m) x = cnt l x + cnt m x := by
  induction l with
  | nil => rw [List.nil_append, cnt_nil, Int.zero_add]
  | cons p l ih => rw [List.cons_append, cnt_cons, cnt_cons, ih, Int.add_assoc]
def negB (l : List (A × Int)) : List (A × Int) := l.map fun p => (p.1, -1 * p.2)
theorem cnt_neg (l : List (A × Int)) (x : A) : cnt (negB l) x = - cnt l x := by
  induction l with
  | nil => rfl
  | cons p l ih =>
    show cnt ((p.1, -1 * p.2) :: negB l) x = _
    rw [cnt_cons, cnt_cons, ih]
    by_cases h : p.1 = x
    · rw [if_pos h, if_pos h]; show -1 * p.2 + _ = _; omega
    · rw [if_neg h, if_neg h]; omega
theorem cnt_out {l : List (A × Int)} {x : A} (h : ∀ p ∈ l, p.1 ≠ x) : cnt l x = 0 := by
  induction l with
  | nil => rfl
  | cons p l ih =>
    rw [cnt_cons, if_neg (h p List.mem_cons_self), ih fun q hq => h q (List.mem_cons_of_mem _ hq)]
    rfl
def Canon (lt : A → A → Bool) (l : List (A × Int)) : Prop := l.Pairwise (fun p q => lt p.1 q.1 = true) ∧ ∀ p ∈ l, p.2 ≠ 0
theorem Canon.nil (lt : A → A → Bool) : Canon lt [] := ⟨.nil, fun _ h => nomatch h⟩
theorem Canon.tail {lt : A → A → Bool} {p : A × Int} {l : List (A × Int)} (h : Canon lt (p :: l)) : Canon lt l :=
  ⟨(List.pairwise_cons.mp h.1).2, fun q hq => h.2 q (List.mem_cons_of_mem _ hq)⟩
theorem Canon.head {lt : A → A → Bool} {p : A × Int} {l : List (A × Int)} (h : Canon lt (p :: l)) : ∀ q ∈ l, lt p.1 q.1 = true :=
  (List.pairwise_cons.mp h.1).1
theorem Canon.neg {lt : A → A → Bool} {l : List (A × Int)} (h : Canon lt l) : Canon lt (negB l) := by
  refine ⟨?_, fun q hq => ?_⟩
  · unfold negB
    exact List.pairwise_map.mpr (h.1.imp fun r => r)
  · obtain ⟨p, hp, rfl⟩ := List.mem_map.mp hq
    have := h.2 p hp
    show -1 * p.2 ≠ 0
    omega
variable {lt : A → A → Bool}
theorem SOrd.ne (O : SOrd lt) {x y : A} (h : lt x y = true) : x ≠ y := by
  rintro rfl
  rw [O.irr] at h
  exact Bool.false_ne_true h
theorem SOrd.asym (O : SOrd lt) {x y : A} (h : lt x y = true) : lt y x = false := by
  cases e : lt y x with
  | false => rfl
  | true =>
    have := O.trn _ _ _ h e
    rw [O.irr] at this
    exact this.symm
theorem cnt_head (O : SOrd lt) {p : A × Int} {l : List (A × Int)} (h : Canon lt (p :: l)) : cnt (p :: l) p.1 = p.2 := by
  rw [cnt_cons, if_pos rfl, cnt_out fun q hq => (O.ne (h.head q hq)).symm, Int.add_zero]
theorem cnt_below (O : SOrd lt) {x : A} {p : A × Int} {l : List (A × Int)} (h : Canon lt (p :: l)) (hx : lt x p.1 = true) : cnt (p :: l) x = 0 := by
  refine cnt_out fun q hq => ?_
  rcases List.mem_cons.mp hq with rfl | hq
  · exact (O.ne hx).symm
  · exact (O.ne (O.trn _ _ _ hx (h.head q hq))).symm
theorem canon_ext (O : SOrd lt) : ∀ {l m : List (A × Int)}, Canon lt l → Canon lt m → (∀ x, cnt l x = cnt m x) → l = m
  | [], [], _, _, _ => rfl
  | [], p :: m, _, hm, e => by
    have := e p.1
    rw [cnt_head O hm, cnt_nil] at this
    exact absurd this.symm (hm.2 p List.mem_cons_self)
  | p :: l, [], hl, _, e => by
    have := e p.1
    rw [cnt_head O hl, cnt_nil] at this
    exact absurd this (hl.2 p List.mem_cons_self)
  | p :: l, q :: m, hl, hm, e => by
    by_cases hpq : p.1 = q.1
    · have e1 := e p.1
      rw [cnt_head O hl, hpq, cnt_head O hm] at e1
      have hp : p = q := Prod.ext hpq e1
      subst hp
      rw [canon_ext O hl.tail hm.tail fun x => ?_]
      have := e x
      rw [cnt_cons, cnt_cons] at this
      omega
    · rcases O.tri _ _ hpq with h | h
      · have e1 := e p.1
        rw [cnt_head O hl, cnt_below O hm h] at e1
        exact absurd e1 (hl.2 p List.mem_cons_self)
      · have e1 := e q.1
        rw [cnt_head O hm, cnt_below O hl h] at e1
        exact absurd e1.symm (hm.2 q List.mem_cons_self)
/-- one more pair -/
def ins (lt : A → A → Bool) (x : A) (n : Int) : List (A × Int) → List (A × Int)
  | [] => if n = 0 then [] else [(x, n)]
  | (y, m) :: r => if x = y then (if n + m = 0 then r else (y, n + m) :: r) else if lt x y = true then (if n = 0 then (y, m) :: r else (x, n) :: (y, m) :: r) else (y, m) :: ins lt x n r
def norm (lt : A → A → Bool) (l : List (A × Int)) : List (A × Int) := l.foldr (fun p r => ins lt p.1 p.2 r) []
theorem cnt_ins (x : A) (n : Int) (z : A) : ∀ l : List (A × Int), cnt (ins lt x n l) z = (if x = z then n else 0) + cnt l z
  | [] => by
    unfold ins
    by_cases h : n = 0
    · rw [if_pos h, h, cnt_nil]; split <;> rfl
    · rw [if_neg h, cnt_cons]
  | (y, m) :: r => by
    unfold ins
    by_cases h : x = y
    · subst h
      rw [if_pos rfl]
      by_cases h0 : n + m = 0
      · rw [if_pos h0, cnt_cons]
        show _ = (if x = z then n else 0) + ((if x = z then m else 0) + _)
        split <;> omega
      · rw [if_neg h0, cnt_cons, cnt_cons]
        show (if x = z then n + m else 0) + _ = (if x = z then n else 0) + ((if x = z then m else 0) + _)
        split <;> omega
    · rw [if_neg h]
      by_cases hl : lt x y = true
      · rw [if_pos hl]
        by_cases h0 : n = 0
        · rw [if_pos h0, h0]; split <;> omega
        · rw [if_neg h0, cnt_cons]
      · rw [if_neg hl, cnt_cons, cnt_ins x n z r, cnt_cons]
        omega
theorem cnt_norm (l : List (A × Int)) (x : A) : cnt (norm lt l) x = cnt l x := by
  induction l with
  | nil => rfl
  | cons p l ih =>
    show cnt (ins lt p.1 p.2 (norm lt l)) x = _
    rw [cnt_ins, ih, cnt_cons]
theorem ins_above {x z : A} {n : Int} (hz : lt z x = true) : ∀ {l : List (A × Int)}, (∀ q ∈ l, lt z q.1 = true) → ∀ q ∈ ins lt x n l, lt z q.1 = true
  | [], _, q, hq => by
    unfold ins at hq
    split at hq
    · exact nomatch hq
    · rw [List.mem_singleton.mp hq]; exact hz
  | (y, m) :: r, h, q, hq => by
    have hy : lt z y = true := h (y, m) List.mem_cons_self
    have hr : ∀ q ∈ r, lt z q.1 = true := fun q hq => h q (List.mem_cons_of_mem _ hq)
    unfold ins at hq
    split at hq
    · split at hq
      · exact hr q hq
      · rcases List.mem_cons.mp hq with rfl | hq
        · exact hy
        · exact hr q hq
    · split at hq
      · split at hq
        · exact h q hq
        · rcases List.mem_cons.mp hq with rfl | hq
          · exact hz
          · exact h q hq
      · rcases List.mem_cons.mp hq with rfl | hq
        · exact hy
        · exact ins_above hz hr q hq
theorem canon_ins (O : SOrd lt) (x : A) (n : Int) : ∀ {l : List (A × Int)}, Canon lt l → Canon lt (ins lt x n l)
  | [], _ => by
    unfold ins
    split
    · exact Canon.nil _
    · rename_i h
      exact ⟨List.pairwise_singleton _ _, fun p hp => by rw [List.mem_singleton.mp hp]; exact h⟩
  | (y, m) :: r, h => by
    unfold ins
    split
    · split
      · exact h.tail
      · rename_i h0
        refine ⟨List.pairwise_cons.mpr ⟨h.head, h.tail.1⟩, fun p hp => ?_⟩
        rcases List.mem_cons.mp hp with rfl | hp
        · exact h0
        · exact h.2 p (List.mem_cons_of_mem _ hp)
    · rename_i hne
      split
      · rename_i hlt
        split
        · exact h
        · rename_i h0
          refine ⟨List.pairwise_cons.mpr ⟨fun q hq => ?_, h.1⟩, fun p hp => ?_⟩
          · rcases List.mem_cons.mp hq with rfl | hq
            · exact hlt
            · exact O.trn _ _ _ hlt (h.head q hq)
          · rcases List.mem_cons.mp hp with rfl | hp
            · exact h0
            · exact h.2 p hp
      · rename_i hlt
        have hyx : lt y x = true := (O.tri _ _ hne).resolve_left hlt
        have c := canon_ins O x n h.tail
        refine ⟨List.pairwise_cons.mpr ⟨ins_above hyx h.head, c.1⟩, fun p hp => ?_⟩
        rcases List.mem_cons.mp hp with rfl | hp
        · exact h.2 (y, m) List.mem_cons_self
        · exact c.2 p hp
theorem canon_norm (O : SOrd lt) (l : List (A × Int)) : Canon lt (norm lt l) := by
  induction l with
  | nil => exact Canon.nil _
  | cons p l ih => exact canon_ins O p.1 p.2 ih
theorem norm_of (O : SOrd lt) {l m : List (A × Int)} (h : Canon lt l) (e : ∀ x, cnt l x = cnt m x) : l = norm lt m :=
  canon_ext O h (canon_norm O m) fun x => by rw [e, cnt_norm]
theorem norm_self (O : SOrd lt) {l : List (A × Int)} (h : Canon lt l) : norm lt l = l := (norm_of O h fun _ => rfl).symm
theorem norm_congr (O : SOrd lt) {l m : List (A × Int)} (e : ∀ x, cnt l x = cnt m x) : norm lt l = norm lt m :=
  norm_of O (canon_norm O l) fun x => by rw [cnt_norm, e]
/-- v + (w - v) is w -/
theorem bag_back (O : SOrd lt) {v w : List (A × Int)} (hw : Canon lt w) : norm lt (v ++ norm lt (w ++ negB v)) = w := by
  refine (norm_of O hw fun x => ?_).symm
  rw [cnt_append, cnt_norm, cnt_append, cnt_neg]
  omega
theorem ins_len (x : A) (n : Int) : ∀ l : List (A × Int), (ins lt x n l).length ≤ l.length + 1
  | [] => by
    unfold ins
    split <;> simp
  | (y, m) :: r => by
    have ih := ins_len x n r
    unfold ins
    split
    · split <;> simp only [List.length_cons] <;> omega
    · split
      · split <;> simp only [List.length_cons] <;> omega
      · simp only [List.length_cons]; omega
theorem norm_len (l : List (A × Int)) : (norm lt l).length ≤ l.length := by
  induction l with
  | nil => exact Nat.le_refl _
  | cons p l ih =>
    have := ins_len (lt := lt) p.1 p.2 (norm lt l)
    show (ins lt p.1 p.2 (norm lt l)).length ≤ _
    rw [List.length_cons]
    omega
/-- each value of a normed list comes from the list -/
theorem ins_mem {x : A} {n : Int} : ∀ {l : List (A × Int)} {q : A × Int}, q ∈ ins lt x n l → q.1 = x ∨ ∃ p ∈ l, p.1 = q.1
  | [], q, h => by
    unfold ins at h
    split at h
    · exact nomatch h
    · rw [List.mem_singleton.mp h]; exact .inl rfl
  | (y, m) :: r, q, h => by
    unfold ins at h
    split at h
    · rename_i e
      split at h
      · exact .inr ⟨q, List.mem_cons_of_mem _ h, rfl⟩
      · rcases List.mem_cons.mp h with rfl | h
        · exact .inl e.symm
        · exact .inr ⟨q, List.mem_cons_of_mem _ h, rfl⟩
    · split at h
      · split at h
        · exact .inr ⟨q, h, rfl⟩
        · rcases List.mem_cons.mp h with rfl | h
          · exact .inl rfl
          · exact .inr ⟨q, h, rfl⟩
      · rcases List.mem_cons.mp h with rfl | h
        · exact .inr ⟨(y, m), List.mem_cons_self, rfl⟩
        · rcases ins_mem h with e | ⟨p, hp, e⟩
          · exact .inl e
          · exact .inr ⟨p, List.mem_cons_of_mem _ hp, e⟩
theorem norm_mem {l : List (A × Int)} {q : A × Int} (h : q ∈ norm lt l) : ∃ p ∈ l, p.1 = q.1 := by
  induction l generalizing q with
  | nil => exact nomatch h
  | cons p l ih =>
    rcases ins_mem (l := norm lt l) h with e | ⟨r, hr, e⟩
    · exact ⟨p, List.mem_cons_self, e.symm⟩
    · obtain ⟨s, hs, e2⟩ := ih hr
      exact ⟨s, List.mem_cons_of_mem _ hs, e2.trans e⟩
/-- how large the times are -/
def wt (l : List (A × Int)) : Nat := (l.map fun p => p.2.natAbs).sum
theorem wt_cons (p : A × Int) (l : List (A × Int)) : wt (p :: l) = p.2.natAbs + wt l := rfl
theorem wt_append (l m : List (A × Int)) : wt (l ++ m) = wt l + wt m := by
  unfold wt
  rw [List.map_append, List.sum_append]
theorem wt_neg (l : List (A × Int)) : wt (negB l) = wt l := by
  induction l with
  | nil => rfl
  | cons p l ih =>
    show wt ((p.1, -1 * p.2) :: negB l) = _
    rw [wt_cons, wt_cons, ih]
    have : (-1 * p.2).natAbs = p.2.natAbs := by omega
    show (-1 * p.2).natAbs + _ = _
    omega
theorem wt_ins (x : A) (n : Int) : ∀ l : List (A × Int), wt (ins lt x n l) ≤ n.natAbs + wt l
  | [] => by
    unfold ins
    split
    · exact Nat.zero_le _
    · exact Nat.le_refl _
  | (y, m) :: r => by
    have ih := wt_ins x n r
    unfold ins
    split
    · split
      · rw [wt_cons]; omega
      · rw [wt_cons, wt_cons]
        show (n + m).natAbs + wt r ≤ n.natAbs + (m.natAbs + wt r)
        omega
    · split
      · split
        · omega
        · rw [wt_cons]; exact Nat.le_refl _
      · rw [wt_cons, wt_cons]; omega
theorem wt_norm (l : List (A × Int)) : wt (norm lt l) ≤ wt l := by
  induction l with
  | nil => exact Nat.le_refl _
  | cons p l ih =>
    have := wt_ins (lt := lt) p.1 p.2 (norm lt l)
    show wt (ins lt p.1 p.2 (norm lt l)) ≤ _
    rw [wt_cons]
    omega
theorem wt_mem {l : List (A × Int)} {p : A × Int} (h : p ∈ l) : p.2.natAbs ≤ wt l := by
  induction l with
  | nil => exact nomatch h
  | cons q l ih =>
    rw [wt_cons]
    rcases List.mem_cons.mp h with rfl | h
    · omega
    · have := ih h; omega
end
end Cw
/-! part CwVal -/
set_option autoImplicit false
set_option linter.all false
/-! Kinds, values, what changes do. Plain Lean. -/
namespace Cw
open PySem
inductive Kd where
  | unit | num | pair (a b : Kd) | either (a b : Kd) | bag (a : Kd)
def Vl : Kd → Type
  | .unit => Unit
  | .num => Int
  | .pair a b => Vl a × Vl b
  | .either a b => Sum (Vl a) (Vl b)
  | .bag a => List (Vl a × Int)
abbrev toI (x : Vl .num) : Int := x
def decV : (k : Kd) → DecidableEq (Vl k)
  | .unit => inferInstanceAs (DecidableEq Unit)
  | .num => inferInstanceAs (DecidableEq Int)
  | .pair a b => have := decV a; have := decV b; inferInstanceAs (DecidableEq (Vl a × Vl b))
  | .either a b => have := decV a; have := decV b; inferInstanceAs (DecidableEq (Sum (Vl a) (Vl b)))
  | .bag a => have := decV a; inferInstanceAs (DecidableEq (List (Vl a × Int)))
instance instDecV (k : Kd) : DecidableEq (Vl k) := decV k
def Kd.plain : Kd → Bool
  | .unit => true
  | .num => true
  | .pair a b => a.plain && b.plain
  | .either a b => a.plain && b.plain
  | .bag _ => false
/-- a kind that stands: bags of plain kinds -/
def Kd.ok : Kd → Bool
  | .unit => true
  | .num => true
  | .pair a b => a.ok && b.ok
  | .either a b => a.ok && b.ok
  | .bag a => a.plain
def Kd.dep : Kd → Nat
  | .unit => 1
  | .num => 1
  | .pair a b => max a.dep b.dep + 1
  | .either a b => max a.dep b.dep + 1
  | .bag a => a.dep + 1
def Kd.D : Kd → Kd
  | .unit => .unit
  | .num => .num
  | .pair a b => .pair a.D b.D
  | .either a b => .either (.either a.D b.D) (.either a b)
  | .bag a => .bag a
theorem Kd.ok_of_plain : ∀ {k : Kd}, k.plain = true → k.ok = true
  | .unit, _ => rfl
  | .num, _ => rfl
  | .pair a b, h => by
    obtain ⟨h1, h2⟩ := Bool.and_eq_true_iff.mp (show (a.plain && b.plain) = true from h)
    exact Bool.and_eq_true_iff.mpr ⟨ok_of_plain h1, ok_of_plain h2⟩
  | .either a b, h => by
    obtain ⟨h1, h2⟩ := Bool.and_eq_true_iff.mp (show (a.plain && b.plain) = true from h)
    exact Bool.and_eq_true_iff.mpr ⟨ok_of_plain h1, ok_of_plain h2⟩
  | .bag _, h => nomatch h
theorem Kd.ok_D : ∀ {k : Kd}, k.ok = true → k.D.ok = true
  | .unit, _ => rfl
  | .num, _ => rfl
  | .pair a b, h => by
    obtain ⟨h1, h2⟩ := Bool.and_eq_true_iff.mp (show (a.ok && b.ok) = true from h)
    exact Bool.and_eq_true_iff.mpr ⟨ok_D h1, ok_D h2⟩
  | .either a b, h => by
    obtain ⟨h1, h2⟩ := Bool.and_eq_true_iff.mp (show (a.ok && b.ok) = true from h)
    exact Bool.and_eq_true_iff.mpr ⟨Bool.and_eq_true_iff.mpr ⟨ok_D h1, ok_D h2⟩, h⟩
  | .bag _, h => h
theorem Kd.dep_pos : ∀ k : Kd, 1 ≤ k.dep
  | .unit => Nat.le_refl _
  | .num => Nat.le_refl _
  | .pair _ _ => Nat.le_add_left _ _
  | .either _ _ => Nat.le_add_left _ _
  | .bag _ => Nat.le_add_left _ _
theorem Kd.dep_D : ∀ k : Kd, k.D.dep + 1 ≤ 2 * k.dep
  | .unit => Nat.le_refl _
  | .num => Nat.le_refl _
  | .pair a b => by
    have h1 := dep_D a
    have h2 := dep_D b
    show max a.D.dep b.D.dep + 1 + 1 ≤ 2 * (max a.dep b.dep + 1)
    omega
  | .either a b => by
    have h1 := dep_D a
    have h2 := dep_D b
    show max (max a.D.dep b.D.dep + 1) (max a.dep b.dep + 1) + 1 + 1 ≤ 2 * (max a.dep b.dep + 1)
    omega
  | .bag a => by
    have := dep_pos a
    show a.dep + 1 + 1 ≤ 2 * (a.dep + 1)
    omega
/-! the order of plain values -/
def lt : (k : Kd) → Vl k → Vl k → Bool
  | .unit, _, _ => false
  | .num, x, y => decide ((toI x) < (toI y))
  | .pair a b, x, y => lt a x.1 y.1 || (decide (x.1 = y.1) && lt b x.2 y.2)
  | .either a b, x, y => (match (x : Sum (Vl a) (Vl b)), (y : Sum (Vl a) (Vl b)) with
    | .inl x, .inl y => lt a x y
    | .inl _, .inr _ => true
    | .inr _, .inl _ => false
    | .inr x, .inr y => lt b x y)
  | .bag _, _, _ => false
theorem lt_irr : ∀ (k : Kd) (x : Vl k), lt k x x = false
  | .unit, _ => rfl
  | .num, x => decide_eq_false (Int.lt_irrefl (toI x))
  | .pair a b, x => by
    show (lt a x.1 x.1 || (decide (x.1 = x.1) && lt b x.2 x.2)) = false
    rw [lt_irr a, lt_irr b, Bool.and_false, Bool.or_false]
  | .either a b, .inl x => lt_irr a x
  | .either a b, .inr x => lt_irr b x
  | .bag _, _ => rfl
theorem lt_pair {a b : Kd} {x y : Vl (.pair a b)} : lt (.pair a b) x y = true ↔ lt a x.1 y.1 = true ∨ (x.1 = y.1 ∧ lt b x.2 y.2 = true) := by
  show (lt a x.1 y.1 || (decide (x.1 = y.1) && lt b x.2 y.2)) = true ↔ _
  rw [Bool.or_eq_true, Bool.and_eq_true, decide_eq_true_eq]
theorem lt_trn : ∀ (k : Kd) (x y z : Vl k), lt k x y = true → lt k y z = true → lt k x z = true
  | .unit, _, _, _, h, _ => nomatch h
  | .num, x, y, z, h, g => by
    have h1 : (toI x) < (toI y) := of_decide_eq_true h
    have h2 : (toI y) < (toI z) := of_decide_eq_true g
    exact decide_eq_true (show toI x < toI z from Int.lt_trans h1 h2)
  | .pair a b, x, y, z, h, g => by
    rcases lt_pair.mp h with h | ⟨h, h'⟩
    · rcases lt_pair.mp g with g | ⟨g, g'⟩
      · exact lt_pair.mpr (.inl (lt_trn a _ _ _ h g))
      · exact lt_pair.mpr (.inl (g ▸ h))
    · rcases lt_pair.mp g with g | ⟨g, g'⟩
      · exact lt_pair.mpr (.inl (h ▸ g))
      · exact lt_pair.mpr (.inr ⟨h.trans g, lt_trn b _ _ _ h' g'⟩)
  | .either a b, .inl x, .inl y, .inl z, h, g => lt_trn a x y z h g
  | .either a b, .inl x, .inl y, .inr z, _, _ => rfl
  | .either a b, .inl x, .inr y, .inl z, _, g => nomatch (show false = true from g)
  | .either a b, .inl x, .inr y, .inr z, _, _ => rfl
  | .either a b, .inr x, .inl y, _, h, _ => nomatch (show false = true from h)
  | .either a b, .inr x, .inr y, .inl z, _, g => nomatch (show false = true from g)
  | .either a b, .inr x, .inr y, .inr z, h, g => lt_trn b x y z h g
  | .bag _, _, _, _, h, _ => nomatch h
theorem lt_tri : ∀ (k : Kd), k.plain = true → ∀ (x y : Vl k), x ≠ y → lt k x y = true ∨ lt k y x = true
  | .unit, _, _, _, h => absurd rfl h
  | .num, _, x, y, h => by
    rcases Int.lt_or_gt_of_ne (a := toI x) (b := toI y) h with g | g
    · exact .inl (decide_eq_true (show toI x < toI y from g))
    · exact .inr (decide_eq_true (show toI y < toI x from g))
  | .pair a b, hp, x, y, h => by
    obtain ⟨h1, h2⟩ := Bool.and_eq_true_iff.mp (show (a.plain && b.plain) = true from hp)
    by_cases e : x.1 = y.1
    · have e2 : x.2 ≠ y.2 := fun q => h (Prod.ext e q)
      rcases lt_tri b h2 _ _ e2 with g | g
      · exact .inl (lt_pair.mpr (.inr ⟨e, g⟩))
      · exact .inr (lt_pair.mpr (.inr ⟨e.symm, g⟩))
    · rcases lt_tri a h1 _ _ e with g | g
      · exact .inl (lt_pair.mpr (.inl g))
      · exact .inr (lt_pair.mpr (.inl g))
  | .either a b, hp, .inl x, .inl y, h => lt_tri a (Bool.and_eq_true_iff.mp (show (a.plain && b.plain) = true from hp)).1 x y fun e => h (e ▸ rfl)
  | .either a b, _, .inl x, .inr y, _ => .inl rfl
  | .either a b, _, .inr x, .inl y, _ => .inr rfl
  | .either a b, hp, .inr x, .inr y, h => lt_tri b (Bool.and_eq_true_iff.mp (show (a.plain && b.plain) = true from hp)).2 x y fun e => h (e ▸ rfl)
  | .bag _, hp, _, _, _ => nomatch hp
theorem ltO {k : Kd} (h : k.plain = true) : SOrd (lt k) := ⟨lt_irr k, lt_trn k, lt_tri k h⟩
/-! what a value has to be -/
def Okv : (k : Kd) → Vl k → Prop
  | .unit, _ => True
  | .num, _ => True
  | .pair a b, x => Okv a x.1 ∧ Okv b x.2
  | .either a b, x => (match (x : Sum (Vl a) (Vl b)) with
    | .inl x => Okv a x
    | .inr x => Okv b x)
  | .bag a, l => Canon (lt a) l
theorem okv_plain : ∀ {k : Kd}, k.plain = true → ∀ v : Vl k, Okv k v
  | .unit, _, _ => trivial
  | .num, _, _ => trivial
  | .pair a b, h, v => by
    obtain ⟨h1, h2⟩ := Bool.and_eq_true_iff.mp (show (a.plain && b.plain) = true from h)
    exact ⟨okv_plain h1 v.1, okv_plain h2 v.2⟩
  | .either a b, h, .inl v => okv_plain (Bool.and_eq_true_iff.mp (show (a.plain && b.plain) = true from h)).1 v
  | .either a b, h, .inr v => okv_plain (Bool.and_eq_true_iff.mp (show (a.plain && b.plain) = true from h)).2 v
  | .bag _, h, _ => nomatch h
/-! fits, led, less -/
def fits : (k : Kd) → Vl k → Vl k.D → Bool
  | .unit, _, _ => true
  | .num, _, _ => true
  | .pair a b, v, c => fits a v.1 (show Vl a.D × Vl b.D from c).1 && fits b v.2 (show Vl a.D × Vl b.D from c).2
  | .either a b, v, c => (match (v : Sum (Vl a) (Vl b)), (c : Sum (Sum (Vl a.D) (Vl b.D)) (Sum (Vl a) (Vl b))) with
    | _, .inr _ => true
    | .inl v, .inl (.inl c) => fits a v c
    | .inr v, .inl (.inr c) => fits b v c
    | .inl _, .inl (.inr _) => false
    | .inr _, .inl (.inl _) => false)
  | .bag _, _, _ => true
def led : (k : Kd) → Vl k → Vl k.D → Vl k
  | .unit, _, _ => ()
  | .num, v, c => ((toI v) + (toI c) : Int)
  | .pair a b, v, c => (led a v.1 (show Vl a.D × Vl b.D from c).1, led b v.2 (show Vl a.D × Vl b.D from c).2)
  | .either a b, v, c => (match (v : Sum (Vl a) (Vl b)), (c : Sum (Sum (Vl a.D) (Vl b.D)) (Sum (Vl a) (Vl b))) with
    | _, .inr w => w
    | .inl v, .inl (.inl c) => (.inl (led a v c) : Sum (Vl a) (Vl b))
    | .inr v, .inl (.inr c) => (.inr (led b v c) : Sum (Vl a) (Vl b))
    | .inl v, .inl (.inr _) => (.inl v : Sum (Vl a) (Vl b))
    | .inr v, .inl (.inl _) => (.inr v : Sum (Vl a) (Vl b)))
  | .bag a, v, c => norm (lt a) ((show List (Vl a × Int) from v) ++ (show List (Vl a × Int) from c))
def less : (k : Kd) → Vl k → Vl k → Vl k.D
  | .unit, _, _ => ()
  | .num, w, v => ((toI w) + -1 * (toI v) : Int)
  | .pair a b, w, v => ((less a w.1 v.1, less b w.2 v.2) : Vl a.D × Vl b.D)
  | .either a b, w, v => (match (w : Sum (Vl a) (Vl b)), (v : Sum (Vl a) (Vl b)) with
    | .inl w, .inl v => (.inl (.inl (less a w v)) : Sum (Sum (Vl a.D) (Vl b.D)) (Sum (Vl a) (Vl b)))
    | .inr w, .inr v => .inl (.inr (less b w v))
    | .inl w, .inr _ => .inr (.inl w)
    | .inr w, .inl _ => .inr (.inr w))
  | .bag a, w, v => norm (lt a) ((show List (Vl a × Int) from w) ++ negB (show List (Vl a × Int) from v))
theorem fits_less : ∀ (k : Kd) (w v : Vl k), fits k v (less k w v) = true
  | .unit, _, _ => rfl
  | .num, _, _ => rfl
  | .pair a b, w, v => Bool.and_eq_true_iff.mpr ⟨fits_less a w.1 v.1, fits_less b w.2 v.2⟩
  | .either a b, .inl w, .inl v => fits_less a w v
  | .either a b, .inr w, .inr v => fits_less b w v
  | .either a b, .inl w, .inr v => rfl
  | .either a b, .inr w, .inl v => rfl
  | .bag _, _, _ => rfl
theorem led_less : ∀ (k : Kd), k.ok = true → ∀ (w v : Vl k), Okv k w → led k v (less k w v) = w
  | .unit, _, _, _, _ => rfl
  | .num, _, w, v, _ => by
    show (toI v) + ((toI w) + -1 * (toI v)) = toI w
    omega
  | .pair a b, h, w, v, o => by
    obtain ⟨h1, h2⟩ := Bool.and_eq_true_iff.mp (show (a.ok && b.ok) = true from h)
    exact Prod.ext (led_less a h1 w.1 v.1 o.1) (led_less b h2 w.2 v.2 o.2)
  | .either a b, h, .inl w, .inl v, o => congrArg Sum.inl (led_less a (Bool.and_eq_true_iff.mp (show (a.ok && b.ok) = true from h)).1 w v o)
  | .either a b, h, .inr w, .inr v, o => congrArg Sum.inr (led_less b (Bool.and_eq_true_iff.mp (show (a.ok && b.ok) = true from h)).2 w v o)
  | .either a b, _, .inl w, .inr v, _ => rfl
  | .either a b, _, .inr w, .inl v, _ => rfl
  | .bag a, h, w, v, o => bag_back (ltO h) (v := v) o
theorem okv_led : ∀ (k : Kd), k.ok = true → ∀ (v : Vl k) (c : Vl k.D), Okv k v → Okv k.D c → Okv k (led k v c)
  | .unit, _, _, _, _, _ => trivial
  | .num, _, _, _, _, _ => trivial
  | .pair a b, h, v, c, o, p => by
    obtain ⟨h1, h2⟩ := Bool.and_eq_true_iff.mp (show (a.ok && b.ok) = true from h)
    exact ⟨okv_led a h1 _ _ o.1 p.1, okv_led b h2 _ _ o.2 p.2⟩
  | .either a b, h, .inl v, .inl (.inl c), o, p => okv_led a (Bool.and_eq_true_iff.mp (show (a.ok && b.ok) = true from h)).1 v c o p
  | .either a b, h, .inr v, .inl (.inr c), o, p => okv_led b (Bool.and_eq_true_iff.mp (show (a.ok && b.ok) = true from h)).2 v c o p
  | .either a b, _, .inl v, .inl (.inr c), o, _ => o
  | .either a b, _, .inr v, .inl (.inl c), o, _ => o
  | .either a b, _, .inl v, .inr w, _, p => p
  | .either a b, _, .inr v, .inr w, _, p => p
  | .bag a, h, v, c, _, _ => canon_norm (ltO h) _
theorem okv_less : ∀ (k : Kd), k.ok = true → ∀ (w v : Vl k), Okv k w → Okv k v → Okv k.D (less k w v)
  | .unit, _, _, _, _, _ => trivial
  | .num, _, _, _, _, _ => trivial
  | .pair a b, h, w, v, o, p => by
    obtain ⟨h1, h2⟩ := Bool.and_eq_true_iff.mp (show (a.ok && b.ok) = true from h)
    exact ⟨okv_less a h1 _ _ o.1 p.1, okv_less b h2 _ _ o.2 p.2⟩
  | .either a b, h, .inl w, .inl v, o, p => okv_less a (Bool.and_eq_true_iff.mp (show (a.ok && b.ok) = true from h)).1 w v o p
  | .either a b, h, .inr w, .inr v, o, p => okv_less b (Bool.and_eq_true_iff.mp (show (a.ok && b.ok) = true from h)).2 w v o p
  | .either a b, _, .inl w, .inr v, o, _ => o
  | .either a b, _, .inr w, .inl v, o, _ => o
  | .bag a, h, w, v, _, _ => canon_norm (ltO h) _
/-- settled twice is settled once -/
theorem settled_settled (k : Kd) (h : k.ok = true) (w v : Vl k) (o : Okv k w) : less k (led k v (less k w v)) v = less k w v := by rw [led_less k h w v o]
/-! how large values are: numbers at most m, bags at most l long and their times together at most m -/
def Small (m l : Nat) : (k : Kd) → Vl k → Prop
  | .unit, _ => True
  | .num, x => (toI x).natAbs ≤ m
  | .pair a b, x => Small m l a x.1 ∧ Small m l b x.2
  | .either a b, x => (match (x : Sum (Vl a) (Vl b)) with
    | .inl x => Small m l a x
    | .inr x => Small m l b x)
  | .bag a, x => (show List (Vl a × Int) from x).length ≤ l ∧ wt (show List (Vl a × Int) from x) ≤ m ∧ ∀ p ∈ (show List (Vl a × Int) from x), Small m l a p.1
theorem small_mono {m l m' l' : Nat} (hm : m ≤ m') (hl : l ≤ l') : ∀ (k : Kd) (v : Vl k), Small m l k v → Small m' l' k v
  | .unit, _, _ => trivial
  | .num, x, h => Nat.le_trans h hm
  | .pair a b, x, h => ⟨small_mono hm hl a _ h.1, small_mono hm hl b _ h.2⟩
  | .either a b, .inl x, h => small_mono hm hl a x h
  | .either a b, .inr x, h => small_mono hm hl b x h
  | .bag a, x, h => ⟨Nat.le_trans h.1 hl, Nat.le_trans h.2.1 hm, fun p hp => small_mono hm hl a _ (h.2.2 p hp)⟩
theorem small_norm {a : Kd} {m l m' l' : Nat} {x y : List (Vl a × Int)} (hx : Small m l (.bag a) x) (hy : Small m' l' (.bag a) y) : Small (m + m') (l + l') (.bag a) (norm (lt a) (x ++ y)) := by
  refine ⟨?_, ?_, fun p hp => ?_⟩
  · have h1 := norm_len (lt := lt a) (x ++ y)
    rw [List.length_append] at h1
    exact Nat.le_trans h1 (Nat.add_le_add hx.1 hy.1)
  · have h1 := wt_norm (lt := lt a) (x ++ y)
    rw [wt_append] at h1
    exact Nat.le_trans h1 (Nat.add_le_add hx.2.1 hy.2.1)
  · obtain ⟨q, hq, e⟩ := norm_mem hp
    rw [← e]
    rcases List.mem_append.mp hq with hq | hq
    · exact small_mono (Nat.le_add_right _ _) (Nat.le_add_right _ _) a _ (hx.2.2 q hq)
    · exact small_mono (Nat.le_add_left _ _) (Nat.le_add_left _ _) a _ (hy.2.2 q hq)
theorem small_neg {a : Kd} {m l : Nat} {x : List (Vl a × Int)} (hx : Small m l (.bag a) x) : Small m l (.bag a) (negB x) := by
  refine ⟨?_, ?_, fun p hp => ?_⟩
  · show (negB x).length ≤ l
    unfold negB
    rw [List.length_map]
    exact hx.1
  · show wt (negB x) ≤ m
    rw [wt_neg]
    exact hx.2.1
  · obtain ⟨q, hq, rfl⟩ := List.mem_map.mp hp
    exact hx.2.2 q hq
theorem small_led {m l m' l' : Nat} : ∀ (k : Kd) (v : Vl k) (c : Vl k.D), Small m l k v → Small m' l' k.D c → Small (m + m') (l + l') k (led k v c)
  | .unit, _, _, _, _ => trivial
  | .num, v, c, h, g => by
    have h1 : (toI v).natAbs ≤ m := h
    have g1 : (toI c).natAbs ≤ m' := g
    show ((toI v) + (toI c)).natAbs ≤ m + m'
    omega
  | .pair a b, v, c, h, g => ⟨small_led a _ _ h.1 g.1, small_led b _ _ h.2 g.2⟩
  | .either a b, .inl v, .inl (.inl c), h, g => small_led a v c h g
  | .either a b, .inr v, .inl (.inr c), h, g => small_led b v c h g
  | .either a b, .inl v, .inl (.inr c), h, _ => small_mono (Nat.le_add_right _ _) (Nat.le_add_right _ _) (.either a b) (.inl v) h
  | .either a b, .inr v, .inl (.inl c), h, _ => small_mono (Nat.le_add_right _ _) (Nat.le_add_right _ _) (.either a b) (.inr v) h
  | .either a b, .inl v, .inr w, _, g => small_mono (Nat.le_add_left _ _) (Nat.le_add_left _ _) (.either a b) w g
  | .either a b, .inr v, .inr w, _, g => small_mono (Nat.le_add_left _ _) (Nat.le_add_left _ _) (.either a b) w g
  | .bag a, v, c, h, g => small_norm h g
theorem small_less {m l m' l' : Nat} : ∀ (k : Kd) (w v : Vl k), Small m l k w → Small m' l' k v → Small (m + m') (l + l') k.D (less k w v)
  | .unit, _, _, _, _ => trivial
  | .num, w, v, h, g => by
    have h1 : (toI w).natAbs ≤ m := h
    have g1 : (toI v).natAbs ≤ m' := g
    show ((toI w) + -1 * (toI v)).natAbs ≤ m + m'
    omega
  | .pair a b, w, v, h, g => ⟨small_less a _ _ h.1 g.1, small_less b _ _ h.2 g.2⟩
  | .either a b, .inl w, .inl v, h, g => small_less a w v h g
  | .either a b, .inr w, .inr v, h, g => small_less b w v h g
  | .either a b, .inl w, .inr v, h, _ => small_mono (Nat.le_add_right _ _) (Nat.le_add_right _ _) (.either a b) (.inl w) h
  | .either a b, .inr w, .inl v, h, _ => small_mono (Nat.le_add_right _ _) (Nat.le_add_right _ _) (.either a b) (.inr w) h
  | .bag a, w, v, h, g => small_norm h (small_neg g)
end Cw
/-! part CwTxt -/
set_option autoImplicit false
set_option linter.all false
set_option maxRecDepth 100000
/-! Values as data: ==, repr. -/
namespace Cw
open PySem
def encK : Kd → PyData
  | .unit => .tuple [.str "unit"]
  | .num => .tuple [.str "num"]
  | .pair a b => .tuple [.str "pair", encK a, encK b]
  | .either a b => .tuple [.str "either", encK a, encK b]
  | .bag a => .tuple [.str "bag", encK a]
def enc : (k : Kd) → Vl k → PyData
  | .unit, _ => .tuple []
  | .num, x => .int (toI x)
  | .pair a b, x => .tuple [.str "pair", enc a x.1, enc b x.2]
  | .either a b, x => (match (x : Sum (Vl a) (Vl b)) with
    | .inl x => .tuple [.str "left", enc a x]
    | .inr x => .tuple [.str "right", enc b x])
  | .bag a, x => .tuple ((show List (Vl a × Int) from x).map fun p => .tuple [enc a p.1, .int p.2])
/-- a pair of a bag -/
def encP (a : Kd) (p : Vl a × Int) : PyData := .tuple [enc a p.1, .int p.2]
theorem enc_bag (a : Kd) (x : List (Vl a × Int)) : enc (.bag a) x = .tuple (x.map (encP a)) := rfl
/-! == -/
theorem eqvAll_two {x y x' y' : PyData} : PyData.eqvAll [x, y] [x', y'] = (PyData.eqv x x' && PyData.eqv y y') := by
  simp only [PyData.eqvAll, Bool.and_true]
theorem eqv_str (x y : Str) : PyData.eqv (.str x) (.str y) = (x == y) := by simp only [PyData.eqv]
theorem eqv_int (x y : Int) : PyData.eqv (.int x) (.int y) = (x == y) := by simp only [PyData.eqv]
theorem eqv_tup (x y : List PyData) : PyData.eqv (.tuple x) (.tuple y) = PyData.eqvAll x y := by simp only [PyData.eqv]
theorem dec_and {p q : Prop} [Decidable p] [Decidable q] [Decidable (p ∧ q)] : (decide p && decide q) = decide (p ∧ q) := by
  by_cases hp : p <;> by_cases hq : q <;> simp [hp, hq]
theorem dec_iff {p q : Prop} {ip : Decidable p} {iq : Decidable q} (h : p ↔ q) : @decide p ip = @decide q iq := by
  by_cases hp : p
  · rw [decide_eq_true hp, decide_eq_true (h.mp hp)]
  · rw [decide_eq_false hp, decide_eq_false fun q => hp (h.mpr q)]
theorem eqv_list {a : Kd} (ih : ∀ x y : Vl a, PyData.eqv (enc a x) (enc a y) = decide (x = y)) : ∀ x y : List (Vl a × Int), PyData.eqvAll (x.map (encP a)) (y.map (encP a)) = decide (x = y)
  | [], [] => by simp [PyData.eqvAll]
  | [], q :: y => by simp [PyData.eqvAll]
  | p :: x, [] => by simp [PyData.eqvAll]
  | p :: x, q :: y => by
    have h := eqv_list ih x y
    show PyData.eqvAll (encP a p :: x.map (encP a)) (encP a q :: y.map (encP a)) = _
    rw [PyData.eqvAll, h]
    have e : PyData.eqv (encP a p) (encP a q) = decide (p = q) := by
      unfold encP
      rw [eqv_tup, eqvAll_two, ih, eqv_int, show (p.2 == q.2) = decide (p.2 = q.2) from by simp [Bool.beq_eq_decide_eq], dec_and]
      exact dec_iff ⟨fun z => Prod.ext z.1 z.2, fun z => z ▸ ⟨rfl, rfl⟩⟩
    rw [e, dec_and]
    exact dec_iff (by rw [List.cons.injEq])
theorem eqv_enc : ∀ (k : Kd) (x y : Vl k), PyData.eqv (enc k x) (enc k y) = decide (x = y)
  | .unit, x, y => by
    show PyData.eqv (.tuple []) (.tuple []) = _
    rw [eqv_tup, show decide (x = y) = true from decide_eq_true rfl, PyData.eqvAll]
  | .num, x, y => by
    show PyData.eqv (.int (toI x)) (.int (toI y)) = _
    rw [eqv_int]
    show (toI x == toI y) = decide (toI x = toI y)
    simp [Bool.beq_eq_decide_eq]
  | .pair a b, x, y => by
    show PyData.eqv (.tuple [.str "pair", enc a x.1, enc b x.2]) (.tuple [.str "pair", enc a y.1, enc b y.2]) = _
    rw [eqv_tup, PyData.eqvAll, eqvAll_two, eqv_enc a, eqv_enc b, eqv_str, beq_self_eq_true, Bool.true_and, dec_and]
    exact dec_iff ⟨fun z => Prod.ext z.1 z.2, fun z => z ▸ ⟨rfl, rfl⟩⟩
  | .either a b, .inl x, .inl y => by
    show PyData.eqv (.tuple [.str "left", enc a x]) (.tuple [.str "left", enc a y]) = _
    rw [eqv_tup, eqvAll_two, eqv_enc a, eqv_str, beq_self_eq_true, Bool.true_and]
    exact dec_iff ⟨fun z => congrArg Sum.inl z, fun z => Sum.inl.inj z⟩
  | .either a b, .inr x, .inr y => by
    show PyData.eqv (.tuple [.str "right", enc b x]) (.tuple [.str "right", enc b y]) = _
    rw [eqv_tup, eqvAll_two, eqv_enc b, eqv_str, beq_self_eq_true, Bool.true_and]
    exact dec_iff ⟨fun z => congrArg Sum.inr z, fun z => Sum.inr.inj z⟩
  | .either a b, .inl x, .inr y => by
    show PyData.eqv (.tuple [.str "left", enc a x]) (.tuple [.str "right", enc b y]) = _
    rw [eqv_tup, eqvAll_two, eqv_str, show ((("left" : String) : Str) == (("right" : String) : Str)) = false from by decide +kernel, Bool.false_and]
    exact (decide_eq_false fun z => Sum.inl_ne_inr z).symm
  | .either a b, .inr x, .inl y => by
    show PyData.eqv (.tuple [.str "right", enc b x]) (.tuple [.str "left", enc a y]) = _
    rw [eqv_tup, eqvAll_two, eqv_str, show ((("right" : String) : Str) == (("left" : String) : Str)) = false from by decide +kernel, Bool.false_and]
    exact (decide_eq_false fun z => Sum.inr_ne_inl z).symm
  | .bag a, x, y => by
    show PyData.eqv (.tuple _) (.tuple _) = _
    rw [eqv_tup]
    exact eqv_list (eqv_enc a) x y
/-! repr, as a row of codes -/
def tl (x : Str) : List Nat := x.cps.toList
theorem tl_inj {x y : Str} (h : tl x = tl y) : x = y := by
  have hc : x.cps = y.cps := Array.toList_inj.mp h
  cases x
  cases y
  simpa using hc
theorem tl_app (x y : Str) : tl (x ++ y) = tl x ++ tl y := by
  show (x.cps ++ y.cps).toList = _
  rw [Array.toList_append]
  rfl
def cod (d : PyData) : List Nat := tl d.shown
def jn : List (List Nat) → List Nat
  | [] => []
  | [x] => x
  | x :: y :: r => x ++ 44 :: 32 :: jn (y :: r)
theorem tl_join : ∀ ts : List Str, tl (Str.join ", " ts) = jn (ts.map tl)
  | [] => rfl
  | [x] => rfl
  | x :: y :: r => by
    show tl (x ++ ", " ++ Str.join ", " (y :: r)) = tl x ++ 44 :: 32 :: jn ((y :: r).map tl)
    rw [tl_app, tl_app, tl_join (y :: r), List.append_assoc]
    have e : tl ((", " : String) : Str) = [44, 32] := by decide +kernel
    rw [e]
    rfl
theorem shownAll_map : ∀ xs : List PyData, PyData.shownAll xs = xs.map PyData.shown
  | [] => by rw [PyData.shownAll]; rfl
  | x :: xs => by rw [PyData.shownAll, shownAll_map xs]; rfl
theorem cod_tup (xs : List PyData) : cod (.tuple xs) = 40 :: (jn (xs.map cod) ++ if xs.length = 1 then [44, 41] else [41]) := by
  unfold cod
  rw [PyData.shown, shownAll_map]
  unfold tupleText
  rw [tl_app, tl_app, tl_join, List.map_map, List.length_map]
  have e1 : tl (("(" : String) : Str) = [40] := by decide +kernel
  rw [e1]
  have e2 : tl ((if (xs.length == 1) = true then ",)" else ")" : String) : Str) = if xs.length = 1 then [44, 41] else [41] := by
    by_cases h : xs.length = 1
    · rw [if_pos (by simpa using h), if_pos h]; decide +kernel
    · rw [if_neg (by simpa using h), if_neg h]; decide +kernel
  rw [e2]
  rfl
theorem cod_str (x : Str) : cod (.str x) = tl (reprText x) := by
  unfold cod
  rw [PyData.shown]
/-- nothing behind, or a comma or a bracket -/
def Stop (s : List Nat) : Prop := ∀ c r, s = c :: r → c = 44 ∨ c = 41
theorem Stop.comma (s : List Nat) : Stop (44 :: s) := fun c r e => .inl (List.cons.inj e).1.symm
theorem Stop.paren (s : List Nat) : Stop (41 :: s) := fun c r e => .inr (List.cons.inj e).1.symm
theorem Stop.nil : Stop [] := fun c r e => nomatch e
/-! numbers -/
def numT (n : Int) : List Nat := tl ((toString n : String) : Str)
theorem cod_int (n : Int) : cod (.int n) = numT n := by
  unfold cod
  rw [PyData.shown]
  rfl
theorem num_free {n : Int} {c : Nat} (h : c ∈ numT n) : c ≠ 44 ∧ c ≠ 41 :=
  ⟨fun e => (PyProof.Rows.intText_free_44 n).mp (e ▸ h), fun e => (PyProof.Rows.intText_free_41 n).mp (e ▸ h)⟩
theorem num_nat (m : Nat) : numT (m : Int) = (Nat.toDigits 10 m).map Char.toNat := PySem.W.KIN.signs_num m
theorem num_neg (m : Nat) : numT (Int.negSucc m) = 45 :: (Nat.toDigits 10 (m + 1)).map Char.toNat := by
  show tl (Str.ofString (toString (Int.negSucc m))) = _
  have e : toString (Int.negSucc m) = "-" ++ (Nat.repr (m + 1)) := rfl
  rw [e]
  unfold tl
  rw [Str.ofString_eq_toList]
  show ("-" ++ (Nat.repr (m + 1))).toList.map Char.toNat = _
  rw [String.toList_append, List.map_append, Nat.toList_repr]
  rfl
theorem digits_ne {m : Nat} {c : Nat} (h : c ∈ (Nat.toDigits 10 m).map Char.toNat) : c ≠ 45 := by
  obtain ⟨ch, hch, e⟩ := List.mem_map.mp h
  have r := Nat.isDigit_of_mem_toDigits (by decide) (by decide) hch
  rintro rfl
  have r2 : 48 ≤ ch.val ∧ ch.val ≤ 57 := by
    simpa [Char.isDigit] using r
  have r3 : 48 ≤ ch.toNat := by
    have := UInt32.le_iff_toNat_le.mp r2.1
    simpa using this
  omega
theorem num_inj {n m : Int} (h : numT n = numT m) : n = m := by
  have key : ∀ a b : Nat, (Nat.toDigits 10 a).map Char.toNat = (Nat.toDigits 10 b).map Char.toNat → a = b := fun a b e => by
    have := congrArg NumText.digitsVal e
    rwa [PySem.W.KIN.val_back, PySem.W.KIN.val_back] at this
  cases n with
  | ofNat a =>
    cases m with
    | ofNat b =>
      have h' : numT (a : Int) = numT (b : Int) := h
      rw [num_nat, num_nat] at h'
      rw [key a b h']
    | negSucc b =>
      have h' : numT (a : Int) = numT (Int.negSucc b) := h
      rw [num_nat, num_neg] at h'
      have hm : 45 ∈ (Nat.toDigits 10 a).map Char.toNat := by rw [h']; exact List.mem_cons_self
      exact absurd rfl (digits_ne hm)
  | negSucc a =>
    cases m with
    | ofNat b =>
      have h' : numT (Int.negSucc a) = numT (b : Int) := h
      rw [num_nat, num_neg] at h'
      have hm : 45 ∈ (Nat.toDigits 10 b).map Char.toNat := by rw [← h']; exact List.mem_cons_self
      exact absurd rfl (digits_ne hm)
    | negSucc b =>
      rw [num_neg, num_neg] at h
      have := key _ _ (List.cons.inj h).2
      rw [Nat.succ.inj this]
theorem split_stop : ∀ {x y s t : List Nat}, (∀ c ∈ x, c ≠ 44 ∧ c ≠ 41) → (∀ c ∈ y, c ≠ 44 ∧ c ≠ 41) → Stop s → Stop t → x ++ s = y ++ t → x = y ∧ s = t
  | [], [], _, _, _, _, _, _, e => ⟨rfl, e⟩
  | [], c :: y, s, t, _, hy, hs, _, e => by
    have := hy c List.mem_cons_self
    rcases hs c (y ++ t) e with q | q
    · exact absurd q this.1
    · exact absurd q this.2
  | c :: x, [], s, t, hx, _, _, ht, e => by
    have := hx c List.mem_cons_self
    rcases ht c (x ++ s) e.symm with q | q
    · exact absurd q this.1
    · exact absurd q this.2
  | c :: x, d :: y, s, t, hx, hy, hs, ht, e => by
    obtain ⟨e1, e2⟩ := List.cons.inj (show c :: (x ++ s) = d :: (y ++ t) from e)
    obtain ⟨e3, e4⟩ := split_stop (fun c hc => hx c (List.mem_cons_of_mem _ hc)) (fun c hc => hy c (List.mem_cons_of_mem _ hc)) hs ht e2
    exact ⟨by rw [e1, e3], e4⟩
theorem num_split {n m : Int} {s t : List Nat} (hs : Stop s) (ht : Stop t) (e : numT n ++ s = numT m ++ t) : n = m ∧ s = t := by
  obtain ⟨e1, e2⟩ := split_stop (fun _ h => num_free h) (fun _ h => num_free h) hs ht e
  exact ⟨num_inj e1, e2⟩
/-! values -/
theorem cod_two (x y : PyData) : cod (.tuple [x, y]) = 40 :: (cod x ++ 44 :: 32 :: (cod y ++ [41])) := by
  rw [cod_tup]
  show 40 :: ((cod x ++ 44 :: 32 :: cod y) ++ [41]) = _
  rw [List.append_assoc]
  rfl
theorem cod_three (x y z : PyData) : cod (.tuple [x, y, z]) = 40 :: (cod x ++ 44 :: 32 :: (cod y ++ 44 :: 32 :: (cod z ++ [41]))) := by
  rw [cod_tup]
  show 40 :: ((cod x ++ 44 :: 32 :: (cod y ++ 44 :: 32 :: cod z)) ++ [41]) = _
  simp only [List.append_assoc, List.cons_append]
/-- the values of a kind stand apart by their texts -/
def Apart (k : Kd) : Prop := ∀ (x y : Vl k) (s t : List Nat), Stop s → Stop t → cod (enc k x) ++ s = cod (enc k y) ++ t → x = y ∧ s = t
theorem pair_split {a : Kd} (ih : Apart a) {p q : Vl a × Int} {s t : List Nat} (e : cod (encP a p) ++ s = cod (encP a q) ++ t) : p = q ∧ s = t := by
  unfold encP at e
  rw [cod_two, cod_two, List.cons_append, List.cons_append] at e
  have e' := (List.cons.inj e).2
  simp only [List.append_assoc, List.cons_append, List.nil_append] at e'
  obtain ⟨e1, e2⟩ := ih _ _ _ _ (Stop.comma _) (Stop.comma _) e'
  have e3 := (List.cons.inj (List.cons.inj e2).2).2
  rw [cod_int, cod_int] at e3
  obtain ⟨e4, e5⟩ := num_split (Stop.paren _) (Stop.paren _) e3
  exact ⟨Prod.ext e1 e4, (List.cons.inj e5).2⟩
theorem rest_split {a : Kd} (ih : Apart a) : ∀ {p q : Vl a × Int} {x y : List (Vl a × Int)} {s t : List Nat}, jn ((p :: x).map fun p => cod (encP a p)) ++ 41 :: s = jn ((q :: y).map fun p => cod (encP a p)) ++ 41 :: t → p :: x = q :: y ∧ s = t
  | p, q, [], [], s, t, e => by
    obtain ⟨e1, e2⟩ := pair_split ih (show cod (encP a p) ++ 41 :: s = cod (encP a q) ++ 41 :: t from e)
    exact ⟨by rw [e1], (List.cons.inj e2).2⟩
  | p, q, [], r :: y, s, t, e => by
    have e' : cod (encP a p) ++ 41 :: s = (cod (encP a q) ++ 44 :: 32 :: jn ((r :: y).map fun p => cod (encP a p))) ++ 41 :: t := e
    rw [List.append_assoc] at e'
    obtain ⟨_, e2⟩ := pair_split ih e'
    exact absurd (List.cons.inj e2).1 (by decide)
  | p, q, r :: x, [], s, t, e => by
    have e' : (cod (encP a p) ++ 44 :: 32 :: jn ((r :: x).map fun p => cod (encP a p))) ++ 41 :: s = cod (encP a q) ++ 41 :: t := e
    rw [List.append_assoc] at e'
    obtain ⟨_, e2⟩ := pair_split ih e'
    exact absurd (List.cons.inj e2).1 (by decide)
  | p, q, r :: x, r' :: y, s, t, e => by
    have e' : (cod (encP a p) ++ 44 :: 32 :: jn ((r :: x).map fun p => cod (encP a p))) ++ 41 :: s = (cod (encP a q) ++ 44 :: 32 :: jn ((r' :: y).map fun p => cod (encP a p))) ++ 41 :: t := e
    rw [List.append_assoc, List.append_assoc] at e'
    obtain ⟨e1, e2⟩ := pair_split ih e'
    have e3 := (List.cons.inj (List.cons.inj e2).2).2
    obtain ⟨e4, e5⟩ := rest_split ih e3
    exact ⟨by rw [e1, e4], e5⟩
theorem cod_bag (a : Kd) (x : List (Vl a × Int)) : cod (enc (.bag a) x) = 40 :: (jn (x.map fun p => cod (encP a p)) ++ if x.length = 1 then [44, 41] else [41]) := by
  rw [enc_bag, cod_tup, List.map_map, List.length_map]
  rfl
theorem head40 (a : Kd) (p : Vl a × Int) : ∃ r, cod (encP a p) = 40 :: r := ⟨_, cod_tup _⟩
theorem bag_split0 {a : Kd} (ih : Apart a) : ∀ (x y : List (Vl a × Int)) (s t : List Nat),
    jn (x.map fun p => cod (encP a p)) ++ ((if x.length = 1 then [44, 41] else [41]) ++ s) = jn (y.map fun p => cod (encP a p)) ++ ((if y.length = 1 then [44, 41] else [41]) ++ t) → x = y ∧ s = t
  | [], [], s, t, e' => by
    exact ⟨rfl, (List.cons.inj (show 41 :: s = 41 :: t from e')).2⟩
  | [], [q], s, t, e' => by
    obtain ⟨r, hr⟩ := head40 a q
    have e2 : 41 :: s = cod (encP a q) ++ ([44, 41] ++ t) := e'
    rw [hr] at e2
    exact absurd (List.cons.inj e2).1 (by decide)
  | [p], [], s, t, e' => by
    obtain ⟨r, hr⟩ := head40 a p
    have e2 : cod (encP a p) ++ ([44, 41] ++ s) = 41 :: t := e'
    rw [hr] at e2
    exact absurd (List.cons.inj e2).1 (by decide)
  | [], q :: q' :: y, s, t, e' => by
    obtain ⟨r, hr⟩ := head40 a q
    have e2 : 41 :: s = (cod (encP a q) ++ _) ++ _ := e'
    rw [hr] at e2
    exact absurd (List.cons.inj e2).1 (by decide)
  | p :: p' :: x, [], s, t, e' => by
    obtain ⟨r, hr⟩ := head40 a p
    have e2 : (cod (encP a p) ++ _) ++ _ = 41 :: t := e'
    rw [hr] at e2
    exact absurd (List.cons.inj e2).1 (by decide)
  | [p], [q], s, t, e' => by
    have e2 : cod (encP a p) ++ ([44, 41] ++ s) = cod (encP a q) ++ ([44, 41] ++ t) := e'
    obtain ⟨e3, e4⟩ := pair_split ih e2
    exact ⟨by rw [e3], (List.cons.inj (List.cons.inj e4).2).2⟩
  | [p], q :: q' :: y, s, t, e' => by
    have e2 : cod (encP a p) ++ ([44, 41] ++ s) = (cod (encP a q) ++ 44 :: 32 :: jn ((q' :: y).map fun p => cod (encP a p))) ++ _ := e'
    rw [List.append_assoc] at e2
    obtain ⟨_, e4⟩ := pair_split ih e2
    exact absurd (List.cons.inj (List.cons.inj e4).2).1 (by decide)
  | p :: p' :: x, [q], s, t, e' => by
    have e2 : (cod (encP a p) ++ 44 :: 32 :: jn ((p' :: x).map fun p => cod (encP a p))) ++ _ = cod (encP a q) ++ ([44, 41] ++ t) := e'
    rw [List.append_assoc] at e2
    obtain ⟨_, e4⟩ := pair_split ih e2
    exact absurd (List.cons.inj (List.cons.inj e4).2).1 (by decide)
  | p :: p' :: x, q :: q' :: y, s, t, e' => by
    have n1 : ¬ (p :: p' :: x).length = 1 := by simp
    have n2 : ¬ (q :: q' :: y).length = 1 := by simp
    rw [if_neg n1, if_neg n2] at e'
    exact rest_split ih (show jn ((p :: p' :: x).map fun p => cod (encP a p)) ++ 41 :: s = jn ((q :: q' :: y).map fun p => cod (encP a p)) ++ 41 :: t from e')
theorem bag_split {a : Kd} (ih : Apart a) : Apart (.bag a) := by
  intro x y s t hs ht e
  have e0 : cod (enc (.bag a) x) ++ s = cod (enc (.bag a) y) ++ t := e
  rw [show cod (enc (.bag a) x) = _ from cod_bag a x, show cod (enc (.bag a) y) = _ from cod_bag a y, List.cons_append, List.cons_append] at e0
  have e' := (List.cons.inj e0).2
  rw [List.append_assoc, List.append_assoc] at e'
  exact bag_split0 ih x y s t e'
theorem cod_left : cod (.str "left") = [39, 108, 101, 102, 116, 39] := by rw [cod_str]; decide +kernel
theorem cod_right : cod (.str "right") = [39, 114, 105, 103, 104, 116, 39] := by rw [cod_str]; decide +kernel
theorem apart : ∀ k : Kd, Apart k
  | .unit => fun x y s t _ _ e => by
    refine ⟨rfl, ?_⟩
    exact List.append_cancel_left e
  | .num => fun x y s t hs ht e => by
    have e' : cod (.int (toI x)) ++ s = cod (.int (toI y)) ++ t := e
    rw [cod_int, cod_int] at e'
    exact num_split hs ht e'
  | .pair a b => fun x y s t hs ht e => by
    have e' : cod (.tuple [.str "pair", enc a x.1, enc b x.2]) ++ s = cod (.tuple [.str "pair", enc a y.1, enc b y.2]) ++ t := e
    rw [cod_three, cod_three, List.cons_append, List.cons_append] at e'
    have e2 := (List.cons.inj e').2
    simp only [List.append_assoc, List.cons_append, List.nil_append] at e2
    have e3 := (List.cons.inj (List.cons.inj (List.append_cancel_left e2)).2).2
    obtain ⟨e4, e5⟩ := apart a _ _ _ _ (Stop.comma _) (Stop.comma _) e3
    obtain ⟨e6, e7⟩ := apart b _ _ _ _ (Stop.paren _) (Stop.paren _) (List.cons.inj (List.cons.inj e5).2).2
    exact ⟨Prod.ext e4 e6, (List.cons.inj e7).2⟩
  | .either a b => fun x y s t hs ht e => by
    match x, y, e with
    | .inl x, .inl y, e =>
      have e' : cod (.tuple [.str "left", enc a x]) ++ s = cod (.tuple [.str "left", enc a y]) ++ t := e
      rw [cod_two, cod_two, List.cons_append, List.cons_append] at e'
      have e2 := (List.cons.inj e').2
      simp only [List.append_assoc, List.cons_append, List.nil_append] at e2
      obtain ⟨e4, e5⟩ := apart a _ _ _ _ (Stop.paren _) (Stop.paren _) (List.cons.inj (List.cons.inj (List.append_cancel_left e2)).2).2
      exact ⟨congrArg Sum.inl e4, (List.cons.inj e5).2⟩
    | .inr x, .inr y, e =>
      have e' : cod (.tuple [.str "right", enc b x]) ++ s = cod (.tuple [.str "right", enc b y]) ++ t := e
      rw [cod_two, cod_two, List.cons_append, List.cons_append] at e'
      have e2 := (List.cons.inj e').2
      simp only [List.append_assoc, List.cons_append, List.nil_append] at e2
      obtain ⟨e4, e5⟩ := apart b _ _ _ _ (Stop.paren _) (Stop.paren _) (List.cons.inj (List.cons.inj (List.append_cancel_left e2)).2).2
      exact ⟨congrArg Sum.inr e4, (List.cons.inj e5).2⟩
    | .inl x, .inr y, e =>
      have e' : cod (.tuple [.str "left", enc a x]) ++ s = cod (.tuple [.str "right", enc b y]) ++ t := e
      rw [cod_two, cod_two, cod_left, cod_right] at e'
      exact absurd (List.cons.inj (List.cons.inj (List.cons.inj e').2).2).1 (by decide)
    | .inr x, .inl y, e =>
      have e' : cod (.tuple [.str "right", enc b x]) ++ s = cod (.tuple [.str "left", enc a y]) ++ t := e
      rw [cod_two, cod_two, cod_left, cod_right] at e'
      exact absurd (List.cons.inj (List.cons.inj (List.cons.inj e').2).2).1 (by decide)
  | .bag a => bag_split (apart a)
/-- repr tells the values of a kind apart -/
theorem shown_inj {k : Kd} {x y : Vl k} : (enc k x).shown = (enc k y).shown ↔ x = y :=
  ⟨fun h => (apart k x y [] [] Stop.nil Stop.nil (by unfold cod; rw [h])).1, fun h => h ▸ rfl⟩
end Cw
/-! part CwEv -/
set_option Elab.async false
set_option linter.all false
set_option maxRecDepth 100000
set_option maxHeartbeats 1000000
/-! What stands for data in the abstract heap; what a reading comes to, told by data. -/
namespace Cw
open PySem PySem.Spec PyProof.Rows L2
/-- a tuple that has no dict of its own -/
def FT (H : Hp) (a : Addr) (xs : List V) : Prop := ∃ o : Obj, o.dict = none ∧ H a = some (.frz o (.tup xs))
theorem FT.rd {H : Hp} {a : Addr} {xs : List V} (h : FT H a xs) : Rd H a (.tup xs) := let ⟨o, _, e⟩ := h; .inr ⟨o, e⟩
theorem FT.sq {K : PySem.W.Frag} {H : Hp} {a : Addr} {xs : List V} (h : FT H a xs) : SqT K H a xs := .inl h.rd
mutual
/-- v stands for the datum d: numbers, texts, tuples of these -/
inductive Tp (H : Hp) : V → PyData → Prop
  | int (i : Int) : Tp H (.int i) (.int i)
  | str (x : Str) : Tp H (.str x) (.str x)
  | tup {a : Addr} {xs : List V} {ds : List PyData} : FT H a xs → TpAll H xs ds → Tp H (.ref a) (.tuple ds)
inductive TpAll (H : Hp) : List V → List PyData → Prop
  | nil : TpAll H [] []
  | cons {v : V} {d : PyData} {vs : List V} {ds : List PyData} : Tp H v d → TpAll H vs ds → TpAll H (v :: vs) (d :: ds)
end
/-- tuples stay -/
def TK (H H' : Hp) : Prop := ∀ b o u, H b = some (.frz o u) → H' b = some (.frz o u)
theorem FT.mono {H H' : Hp} {a : Addr} {xs : List V} (k : TK H H') (h : FT H a xs) : FT H' a xs := let ⟨o, n, e⟩ := h; ⟨o, n, k _ _ _ e⟩
theorem TK.same {H H' : Hp} (s : Same H H') : TK H H' := fun b o u e => s b _ e
section
variable {H H' : Hp}
mutual
theorem Tp.mono (k : TK H H') : ∀ {d : PyData} {v : V}, Tp H v d → Tp H' v d
  | .int i, _, h => by cases h; exact .int i
  | .str x, _, h => by cases h; exact .str x
  | .tuple ds, _, h => by
    cases h with
    | tup e t => exact .tup (e.mono k) (TpAll.mono k t)
theorem TpAll.mono (k : TK H H') : ∀ {ds : List PyData} {vs : List V}, TpAll H vs ds → TpAll H' vs ds
  | [], _, h => by cases h; exact .nil
  | d :: ds, _, h => by
    cases h with
    | cons a t => exact .cons (Tp.mono k a) (TpAll.mono k t)
end
mutual
theorem Tp.dp {K : PySem.W.Frag} : ∀ {d : PyData} {v : V}, Tp H v d → Dp K H v d
  | .int i, _, h => by cases h; exact .int i
  | .str x, _, h => by cases h; exact .str x
  | .tuple ds, _, h => by
    cases h with
    | tup e t => exact .tup e.sq (TpAll.dp t)
theorem TpAll.dp {K : PySem.W.Frag} : ∀ {ds : List PyData} {vs : List V}, TpAll H vs ds → DpAll K H vs ds
  | [], _, h => by cases h; exact .nil
  | d :: ds, _, h => by
    cases h with
    | cons a t => exact .cons (Tp.dp a) (TpAll.dp t)
end
theorem TpAll.len : ∀ {ds : List PyData} {vs : List V}, TpAll H vs ds → vs.length = ds.length
  | [], _, h => by cases h; rfl
  | d :: ds, _, h => by
    cases h with
    | cons a t => rw [List.length_cons, List.length_cons, TpAll.len t]
theorem TpAll.get : ∀ {ds : List PyData} {vs : List V} {i : Nat} {d : PyData}, TpAll H vs ds → ds[i]? = some d → ∃ v, vs[i]? = some v ∧ Tp H v d
  | [], _, _, _, _, e => by simp at e
  | d :: ds, _, 0, _, h, e => by
    cases h with
    | cons a t =>
      have e' : d = _ := Option.some.inj e
      exact ⟨_, rfl, e' ▸ a⟩
  | d :: ds, _, i + 1, _, h, e => by
    cases h with
    | cons a t =>
      obtain ⟨v, h1, h2⟩ := TpAll.get (i := i) t (by simpa using e)
      exact ⟨v, by simpa using h1, h2⟩
theorem TpAll.getV : ∀ {ds : List PyData} {vs : List V} {i : Nat} {v : V}, TpAll H vs ds → vs[i]? = some v → ∃ d, ds[i]? = some d ∧ Tp H v d
  | [], _, _, _, h, e => by cases h; simp at e
  | d :: ds, _, 0, _, h, e => by
    cases h with
    | cons a t =>
      have e' : _ = _ := Option.some.inj e
      exact ⟨d, rfl, e' ▸ a⟩
  | d :: ds, _, i + 1, _, h, e => by
    cases h with
    | cons a t =>
      obtain ⟨d', h1, h2⟩ := TpAll.getV (i := i) t (by simpa using e)
      exact ⟨d', by simpa using h1, h2⟩
theorem TpAll.append : ∀ {ds es : List PyData} {vs ws : List V}, TpAll H vs ds → TpAll H ws es → TpAll H (vs ++ ws) (ds ++ es)
  | [], _, _, _, h, g => by cases h; exact g
  | d :: ds, _, _, _, h, g => by
    cases h with
    | cons a t => exact .cons a (TpAll.append t g)
theorem TpAll.drop : ∀ {ds : List PyData} {vs : List V} (n : Nat), TpAll H vs ds → TpAll H (vs.drop n) (ds.drop n)
  | _, _, 0, h => h
  | [], _, n + 1, h => by cases h; exact .nil
  | d :: ds, _, n + 1, h => by
    cases h with
    | cons a t => exact TpAll.drop n t
theorem Tp.tup_of {v : V} {ds : List PyData} (h : Tp H v (.tuple ds)) : ∃ a xs, v = .ref a ∧ FT H a xs ∧ TpAll H xs ds := by
  cases h with
  | tup e t => exact ⟨_, _, rfl, e, t⟩
theorem Tp.int_of {v : V} {i : Int} (h : Tp H v (.int i)) : v = .int i := by cases h; rfl
theorem Tp.str_of {v : V} {x : Str} (h : Tp H v (.str x)) : v = .str x := by cases h; rfl
end
/-! how heaps may grow -/
structure Grow (R : Hp → Hp → Prop) : Prop where
  refl : ∀ H, R H H
  trans : ∀ {H H1 H2}, R H H1 → R H1 H2 → R H H2
  tk : ∀ {H H1}, R H H1 → TK H H1
  same : ∀ {H H1}, Same H H1 → R H H1
theorem growS : Grow Same := ⟨Same.refl, Same.trans, TK.same, fun h => h⟩
theorem same_new {H : Hp} {p : Addr} (h : H p = none) (o : HO) : Same H (upd H p o) := fun b u q => by rw [upd_ne (ne_of_none q h)]; exact q
/-- a written tuple -/
def tTupN (t : TA) : TE := fun σ H Q => t σ H fun xs H1 => xs.length ≤ sizeLine ∧ ∀ (p : Addr) (o : Obj), H1 p = none → o.dict = none → Q (.ref p) (upd H1 p (.frz o (.tup xs)))
theorem pe_tupN {X : Cx} {es : List Expr} {t : TA} {pos : Pos} {x1} (h : PA X es t) : PE X (.Tuple es x1 pos) (tTupN t) := by
  refine ⟨fun pins s σ H Q I hq => ?_⟩
  refine wpAny_Tuple_spliced (thn (h.run pos pins s σ H _ I hq) fun us s1 ⟨xs, H1, I1, r, z, q⟩ => ⟨by rw [← r.length]; exact z, ?_⟩)
  have hf : H1 s1.heap.objs.size = none := I1.hok.fresh (Nat.le_refl _)
  have hg : (s1.heap.push { cls := .type "tuple", data := .seq us.toArray }).get? s1.heap.objs.size = some { cls := .type "tuple", data := .seq us.toArray } := Heap.get?_push_size _ rfl
  exact ⟨.ref s1.heap.objs.size, _, I1.laid (a := s1.heap.objs.size) (o := .frz { cls := .type "tuple", data := .seq us.toArray } (.tup xs)) (t' := s1.toks) (fun b u e => Heap.get?_push_of_some _ e) (Nat.le_refl _) ⟨hg, z, us, r, ⟨_, hg, rfl, _, rfl⟩⟩, rfl, q _ _ hf rfl⟩
/-- tuple(l) -/
def rTupL (K : PySem.W.Frag) : List V → Hp → VK → Prop := fun xs H Q => ∃ p ys, xs = [.ref p] ∧ SqL K H p ys ∧ ∀ (l : Addr) (o : Obj), H l = none → o.dict = none → Q (.ref l) (upd H l (.frz o (.tup ys)))
theorem call_tupN {X : Cx} : CallR X (.type "tuple") (rTupL X.K) := by
  intro pins s σ H xs us Q I r h
  obtain ⟨p, ys, rfl, hq, q⟩ := h
  obtain ⟨u, rfl, rx⟩ := vals1 r
  cases rx
  obtain ⟨its, r', pl, hz⟩ := I.list hq
  have hlen := r'.length
  refine call_tuple_list pl.isList (fun h' kp => ?_) (by simp only [List.size_toArray] <;> omega)
  have I1 : Inv X pins σ H { s with heap := h' } := I.kept (t' := s.toks) kp
  have hg : (h'.push { cls := .type "tuple", data := .seq its.toArray }).get? h'.objs.size = some { cls := .type "tuple", data := .seq its.toArray } := Heap.get?_push_size _ rfl
  exact ⟨.ref h'.objs.size, _, I1.laid (a := h'.objs.size) (o := .frz { cls := .type "tuple", data := .seq its.toArray } (.tup ys)) (h' := h'.push { cls := .type "tuple", data := .seq its.toArray }) (t' := s.toks) (fun b o e => Heap.get?_push_of_some _ e) (Nat.le_refl _) ⟨hg, hz, its, r', ⟨_, hg, rfl, _, rfl⟩⟩, rfl, q _ _ (I1.hok.fresh (Nat.le_refl _)) rfl⟩
/-! what comes of an expression -/
section
variable (R : Hp → Hp → Prop)
def EvD (te : TE) (σ : L2.St) (H : Hp) (d : PyData) : Prop := ∀ H1, R H H1 → ∀ Q : VK, (∀ v H2, R H1 H2 → Tp H2 v d → Q v H2) → te σ H1 Q
def EvB (te : TE) (σ : L2.St) (H : Hp) (b : Bool) : Prop := ∀ H1, R H H1 → ∀ Q : VK, (∀ H2, R H1 H2 → Q (.bl b) H2) → te σ H1 Q
def EvV (te : TE) (σ : L2.St) (H : Hp) (v : V) : Prop := ∀ H1, R H H1 → ∀ Q : VK, (∀ H2, R H1 H2 → Q v H2) → te σ H1 Q
def EvT (tt : TT) (σ : L2.St) (H : Hp) (b : Bool) : Prop := ∀ H1, R H H1 → ∀ Q : Bool → Hp → Prop, (∀ H2, R H1 H2 → Q b H2) → tt σ H1 Q
def EvA (ta : TA) (σ : L2.St) (H : Hp) (ds : List PyData) : Prop := ∀ H1, R H H1 → ∀ Q : List V → Hp → Prop, (∀ vs H2, R H1 H2 → TpAll H2 vs ds → Q vs H2) → ta σ H1 Q
/-- arguments that are one known value and then data -/
def EvA1 (ta : TA) (σ : L2.St) (H : Hp) (v : V) (ds : List PyData) : Prop := ∀ H1, R H H1 → ∀ Q : List V → Hp → Prop, (∀ vs H2, R H1 H2 → TpAll H2 vs ds → Q (v :: vs) H2) → ta σ H1 Q
end
section
variable {R : Hp → Hp → Prop} {K : PySem.W.Frag} {σ : L2.St} {H H' : Hp} {ta tb te : TE} {t u : TT} {v : V} {d e : PyData}
theorem EvD.mono (G : Grow R) (g : R H H') (h : EvD R te σ H d) : EvD R te σ H' d := fun H1 a Q q => h H1 (G.trans g a) Q q
theorem EvB.mono {b : Bool} (G : Grow R) (g : R H H') (h : EvB R te σ H b) : EvB R te σ H' b := fun H1 a Q q => h H1 (G.trans g a) Q q
theorem EvD.eq (h : EvD R te σ H d) (x : d = e) : EvD R te σ H e := x ▸ h
theorem EvB.eq {b c : Bool} (h : EvB R te σ H b) (x : b = c) : EvB R te σ H c := x ▸ h
theorem EvT.eq {b c : Bool} (h : EvT R t σ H b) (x : b = c) : EvT R t σ H c := x ▸ h
theorem EvA.eq {ta : TA} {ds es : List PyData} (h : EvA R ta σ H ds) (x : ds = es) : EvA R ta σ H es := x ▸ h
theorem ev_var (G : Grow R) {i : Nat} (h : Tp H v d) (e : σ[i]? = some (some v) := by rfl) : EvD R (tVar i) σ H d := fun H1 g _ q => ⟨v, e, q v H1 (G.refl H1) (h.mono (G.tk g))⟩
theorem evv_var (G : Grow R) {i : Nat} (e : σ[i]? = some (some v) := by rfl) : EvV R (tVar i) σ H v := fun H1 g _ q => ⟨v, e, q H1 (G.refl H1)⟩
theorem evb_var (G : Grow R) {i : Nat} {b : Bool} (e : σ[i]? = some (some (.bl b)) := by rfl) : EvB R (tVar i) σ H b := fun H1 g _ q => ⟨_, e, q H1 (G.refl H1)⟩
theorem ev_int (G : Grow R) {i : Int} : EvD R (tC (.int i)) σ H (.int i) := fun H1 _ _ q => q _ H1 (G.refl H1) (.int i)
theorem ev_str (G : Grow R) {x : Str} : EvD R (tC (.str x)) σ H (.str x) := fun H1 _ _ q => q _ H1 (G.refl H1) (.str x)
theorem evb_c (G : Grow R) {b : Bool} : EvB R (tC (.bl b)) σ H b := fun H1 _ _ q => q H1 (G.refl H1)
theorem evv_c (G : Grow R) : EvV R (tC v) σ H v := fun H1 _ _ q => q H1 (G.refl H1)
/-- an item of a tuple -/
theorem ev_ix (G : Grow R) {ds : List PyData} {i : Nat} (ha : EvD R ta σ H (.tuple ds)) (hb : EvD R tb σ H (.int (i : Int))) (hi : ds[i]? = some d := by rfl) : EvD R (tOp (rIxT K) ta tb) σ H d := fun H1 g Q q =>
  ha H1 g _ fun v H2 g2 t2 => hb H2 (G.trans g g2) _ fun w H3 g3 t3 => by
    obtain ⟨a, xs, rfl, ea, tt⟩ := (t2.mono (G.tk g3)).tup_of
    obtain ⟨x, hx, tx⟩ := tt.get hi
    rw [t3.int_of]
    exact ⟨a, xs, _, x, rfl, rfl, ea.sq, atI_nat hx, q x H3 (G.trans g2 g3) tx⟩
theorem ev_ix0 (G : Grow R) {ds : List PyData} (ha : EvD R ta σ H (.tuple ds)) (hi : ds[0]? = some d := by rfl) : EvD R (tOp (rIxT K) ta (tC (.int 0))) σ H d := ev_ix (i := 0) G ha (ev_int G) hi
theorem ev_ix1 (G : Grow R) {ds : List PyData} (ha : EvD R ta σ H (.tuple ds)) (hi : ds[1]? = some d := by rfl) : EvD R (tOp (rIxT K) ta (tC (.int 1))) σ H d := ev_ix (i := 1) G ha (ev_int G) hi
theorem ev_ix2 (G : Grow R) {ds : List PyData} (ha : EvD R ta σ H (.tuple ds)) (hi : ds[2]? = some d := by rfl) : EvD R (tOp (rIxT K) ta (tC (.int 2))) σ H d := ev_ix (i := 2) G ha (ev_int G) hi
theorem eva_nil (G : Grow R) : EvA R tNil σ H [] := fun H1 _ _ q => q [] H1 (G.refl H1) .nil
theorem eva_cons (G : Grow R) {tr : TA} {ds : List PyData} (h : EvD R ta σ H d) (hr : EvA R tr σ H ds) : EvA R (tCons ta tr) σ H (d :: ds) := fun H1 g _ q =>
  h H1 g _ fun v H2 g2 t2 => hr H2 (G.trans g g2) _ fun vs H3 g3 t3 => q (v :: vs) H3 (G.trans g2 g3) (.cons (t2.mono (G.tk g3)) t3)
theorem eva_one (G : Grow R) (h : EvD R ta σ H d) : EvA R (tCons ta tNil) σ H [d] := eva_cons G h (eva_nil G)
theorem eva_two (G : Grow R) (h : EvD R ta σ H d) (h2 : EvD R tb σ H e) : EvA R (tCons ta (tCons tb tNil)) σ H [d, e] := eva_cons G h (eva_one G h2)
theorem eva1_cons (G : Grow R) {tr : TA} {ds : List PyData} (h : EvV R ta σ H v) (hr : EvA R tr σ H ds) : EvA1 R (tCons ta tr) σ H v ds := fun H1 g _ q =>
  h H1 g _ fun H2 g2 => hr H2 (G.trans g g2) _ fun vs H3 g3 t3 => q vs H3 (G.trans g2 g3) t3
theorem ev_tup (G : Grow R) {ta : TA} {ds : List PyData} (h : EvA R ta σ H ds) (hl : ds.length ≤ 1000 := by decide) : EvD R (tTupN ta) σ H (.tuple ds) := fun H1 g _ q =>
  h H1 g _ fun vs H2 g2 t2 => ⟨by rw [t2.len, sizeLine_eq]; omega, fun p o hp hn => q (.ref p) _ (G.trans g2 (G.same (same_new hp _))) (.tup ⟨o, hn, upd_same⟩ (t2.mono (TK.same (same_new hp _))))⟩
/-- == and != of data -/
theorem evb_eq (G : Grow R) (ha : EvD R ta σ H d) (hb : EvD R tb σ H e) (sd : SeqAt.shaped d = true := by rfl) (se : SeqAt.shaped e = true := by rfl) : EvB R (tOp (rEqD K) ta tb) σ H (PyData.eqv d e) := fun H1 g Q q =>
  ha H1 g _ fun v H2 g2 t2 => hb H2 (G.trans g g2) _ fun w H3 g3 t3 => ⟨d, e, (t2.mono (G.tk g3)).dp, t3.dp, sd, se, q H3 (G.trans g2 g3)⟩
theorem evb_ne (G : Grow R) (ha : EvD R ta σ H d) (hb : EvD R tb σ H e) (sd : SeqAt.shaped d = true := by rfl) (se : SeqAt.shaped e = true := by rfl) : EvB R (tOp (rNeD K) ta tb) σ H (!PyData.eqv d e) := fun H1 g Q q =>
  ha H1 g _ fun v H2 g2 t2 => hb H2 (G.trans g g2) _ fun w H3 g3 t3 => ⟨d, e, (t2.mono (G.tk g3)).dp, t3.dp, sd, se, q H3 (G.trans g2 g3)⟩
/-- ints -/
theorem ev_intop (G : Grow R) {g : Int → Int → Int} {i j : Int} (ha : EvD R ta σ H (.int i)) (hb : EvD R tb σ H (.int j)) : EvD R (tOp (rI0 fun i j => .int (g i j)) ta tb) σ H (.int (g i j)) := fun H1 g Q q =>
  ha H1 g _ fun v H2 g2 t2 => hb H2 (G.trans g g2) _ fun w H3 g3 t3 => ⟨i, j, t2.int_of, t3.int_of, q _ H3 (G.trans g2 g3) (.int _)⟩
theorem ev_intopC (G : Grow R) {C : Int → Int → Prop} {g : Int → Int → Int} {i j : Int} (ha : EvD R ta σ H (.int i)) (hb : EvD R tb σ H (.int j)) (hc : C i j) : EvD R (tOp (rI C fun i j => .int (g i j)) ta tb) σ H (.int (g i j)) := fun H1 g Q q =>
  ha H1 g _ fun v H2 g2 t2 => hb H2 (G.trans g g2) _ fun w H3 g3 t3 => ⟨i, j, t2.int_of, t3.int_of, hc, q _ H3 (G.trans g2 g3) (.int _)⟩
theorem evb_intop (G : Grow R) {g : Int → Int → Bool} {i j : Int} (ha : EvD R ta σ H (.int i)) (hb : EvD R tb σ H (.int j)) : EvB R (tOp (rI0 fun i j => .bl (g i j)) ta tb) σ H (g i j) := fun H1 g Q q =>
  ha H1 g _ fun v H2 g2 t2 => hb H2 (G.trans g g2) _ fun w H3 g3 t3 => ⟨i, j, t2.int_of, t3.int_of, q H3 (G.trans g2 g3)⟩
/-- len of a tuple -/
theorem ev_len (G : Grow R) {ds : List PyData} (ha : EvD R ta σ H (.tuple ds)) : EvD R (tCB (fun xs H Q => ∃ x n, xs = [x] ∧ LenV K x H n ∧ Q (.int n) H) (tCons ta tNil)) σ H (.int (ds.length : Int)) := fun H1 g Q q =>
  ha H1 g _ fun v H2 g2 t2 => by
    obtain ⟨a, xs, rfl, ea, tt⟩ := t2.tup_of
    refine ⟨.ref a, xs.length, rfl, .inr ⟨xs, ea.sq, rfl⟩, ?_⟩
    rw [tt.len]
    exact q _ H2 g2 (.int _)
/-- x not in (a, b, ..), texts -/
theorem inV_strs (x : Str) : ∀ ys : List Str, inV (.str x) (ys.map V.str) = ys.any fun y => decide (y = x)
  | [] => rfl
  | y :: ys => by
    have ih := inV_strs x ys
    show (eqV (.str y) (.str x) || inV (.str x) (ys.map V.str)) = _
    rw [ih]
    have e : eqV (.str y) (.str x) = decide (y = x) := by
      show (y == x) = _
      exact Bool.beq_eq_decide_eq _ _
    rw [e]
    rfl
theorem tpAll_strs : ∀ {ys : List Str} {vs : List V}, TpAll H vs (ys.map .str) → vs = ys.map V.str
  | [], _, h => by cases h; rfl
  | y :: ys, _, h => by
    cases h with
    | cons a t => rw [a.str_of, tpAll_strs t]; rfl
theorem flat_strs : ∀ ys : List Str, (ys.map V.str).all flatV = true
  | [] => rfl
  | y :: ys => flat_strs ys
theorem evb_notin (G : Grow R) {x : Str} {ys : List Str} (ha : EvD R ta σ H (.str x)) (hb : EvD R tb σ H (.tuple (ys.map .str))) : EvB R (tOp (rIn K true) ta tb) σ H (!(ys.any fun y => decide (y = x))) := fun H1 g Q q =>
  ha H1 g _ fun v H2 g2 t2 => hb H2 (G.trans g g2) _ fun w H3 g3 t3 => by
    obtain ⟨a, xs, rfl, ea, tt⟩ := t3.tup_of
    rw [tpAll_strs tt] at ea
    rw [t2.str_of]
    refine ⟨a, _, rfl, .inr (ea.sq), rfl, flat_strs ys, ?_⟩
    rw [inV_strs]
    exact q H3 (G.trans g2 g3)
theorem evb_in (G : Grow R) {x : Str} {ys : List Str} (ha : EvD R ta σ H (.str x)) (hb : EvD R tb σ H (.tuple (ys.map .str))) : EvB R (tOp (rIn K false) ta tb) σ H (ys.any fun y => decide (y = x)) := fun H1 g Q q =>
  ha H1 g _ fun v H2 g2 t2 => hb H2 (G.trans g g2) _ fun w H3 g3 t3 => by
    obtain ⟨a, xs, rfl, ea, tt⟩ := t3.tup_of
    rw [tpAll_strs tt] at ea
    rw [t2.str_of]
    refine ⟨a, _, rfl, .inr (ea.sq), rfl, flat_strs ys, ?_⟩
    rw [inV_strs]
    exact q H3 (G.trans g2 g3)
/-! isinstance -/
def tyD : PyData → String
  | .int _ => "int"
  | .str _ => "str"
  | .tuple _ => "tuple"
  | _ => ""
theorem tp_ty {v : V} (h : Tp H v d) : TyX K H v (.type (tyD d)) := by
  cases h with
  | int i => exact .base (.int i)
  | str x => exact .base (.str x)
  | tup e t =>
    obtain ⟨o, _, e⟩ := e
    exact .fTuple e
theorem evb_isi (G : Grow R) {T : String} {b : Bool} (ha : EvD R ta σ H d) (hk : kitB (tyD d) T = some b) : EvB R (tCB (rIsi K) (tCons ta (tCons (tC (.ty T)) tNil))) σ H b := fun H1 g Q q =>
  ha H1 g _ fun v H2 g2 t2 => ⟨v, .ty T, _, .type T, b, rfl, .ty T, tp_ty t2, kit_ty hk, q H2 g2⟩
theorem kit_ii : kitB "int" "int" = some true := by decide +kernel
theorem kit_ib : kitB "int" "bool" = some false := by decide +kernel
theorem kit_it : kitB "int" "tuple" = some false := by decide +kernel
theorem kit_tt : kitB "tuple" "tuple" = some true := by decide +kernel
theorem kit_ti : kitB "tuple" "int" = some false := by decide +kernel
theorem kit_ts : kitB "tuple" "str" = some false := by decide +kernel
theorem kit_ss : kitB "str" "str" = some true := by decide +kernel
theorem kit_st : kitB "str" "tuple" = some false := by decide +kernel
/-! tests and bools -/
theorem evt_test {b : Bool} (h : EvB R te σ H b) : EvT R (tTest te) σ H b := fun H1 g _ q => h H1 g _ fun H2 g2 => ⟨b, rfl, q H2 g2⟩
theorem evt_B {b : Bool} (h : EvB R te σ H b) : EvT R (tB te) σ H b := fun H1 g _ q => h H1 g _ fun H2 g2 => ⟨b, rfl, q H2 g2⟩
theorem evt_not {a : Bool} (h : EvT R t σ H a) : EvT R (tNot t) σ H (!a) := fun H1 g _ q => h H1 g _ fun H2 g2 => q H2 g2
theorem evt_or {a b : Bool} (G : Grow R) (h1 : EvT R t σ H a) (h2 : a = false → EvT R u σ H b) : EvT R (tOr t u) σ H (a || b) := fun H1 g Q q => h1 H1 g _ fun H2 g2 => by
  cases a with
  | true => exact iteT (q H2 g2)
  | false => exact iteF (h2 rfl H2 (G.trans g g2) Q fun H3 g3 => q H3 (G.trans g2 g3))
theorem evt_orT {b : Bool} (h1 : EvT R t σ H true) : EvT R (tOr t u) σ H true := fun H1 g Q q => h1 H1 g _ fun H2 g2 => iteT (q H2 g2)
theorem evt_orF {b : Bool} (G : Grow R) (h1 : EvT R t σ H false) (h2 : EvT R u σ H b) : EvT R (tOr t u) σ H b := fun H1 g Q q => h1 H1 g _ fun H2 g2 => iteF (h2 H2 (G.trans g g2) Q fun H3 g3 => q H3 (G.trans g2 g3))
theorem evt_andT {b : Bool} (G : Grow R) (h1 : EvT R t σ H true) (h2 : EvT R u σ H b) : EvT R (tAnd t u) σ H b := fun H1 g Q q => h1 H1 g _ fun H2 g2 => iteT (h2 H2 (G.trans g g2) Q fun H3 g3 => q H3 (G.trans g2 g3))
theorem evt_andF (h1 : EvT R t σ H false) : EvT R (tAnd t u) σ H false := fun H1 g Q q => h1 H1 g _ fun H2 g2 => iteF (q H2 g2)
theorem evb_andT {b : Bool} (G : Grow R) (h1 : EvB R ta σ H true) (h2 : EvB R tb σ H b) : EvB R (tAndV ta tb) σ H b := fun H1 g Q q => h1 H1 g _ fun H2 g2 => ⟨true, rfl, iteT (h2 H2 (G.trans g g2) Q fun H3 g3 => q H3 (G.trans g2 g3))⟩
theorem evb_andF (h1 : EvB R ta σ H false) : EvB R (tAndV ta tb) σ H false := fun H1 g Q q => h1 H1 g _ fun H2 g2 => ⟨false, rfl, iteF (q H2 g2)⟩
theorem evb_and {a b : Bool} (G : Grow R) (h1 : EvB R ta σ H a) (h2 : a = true → EvB R tb σ H b) : EvB R (tAndV ta tb) σ H (a && b) := by
  cases a with
  | true => exact evb_andT G h1 (h2 rfl)
  | false => exact evb_andF h1
theorem evb_orT (h1 : EvB R ta σ H true) : EvB R (tOrV ta tb) σ H true := fun H1 g Q q => h1 H1 g _ fun H2 g2 => ⟨true, rfl, iteT (q H2 g2)⟩
theorem evb_orF {b : Bool} (G : Grow R) (h1 : EvB R ta σ H false) (h2 : EvB R tb σ H b) : EvB R (tOrV ta tb) σ H b := fun H1 g Q q => h1 H1 g _ fun H2 g2 => ⟨false, rfl, iteF (h2 H2 (G.trans g g2) Q fun H3 g3 => q H3 (G.trans g2 g3))⟩
theorem evb_not {a : Bool} (h1 : EvB R ta σ H a) : EvB R (tNotV ta) σ H (!a) := fun H1 g Q q => h1 H1 g _ fun H2 g2 => ⟨a, rfl, q H2 g2⟩
theorem ev_ifT (G : Grow R) (h : EvT R t σ H true) (h1 : EvD R ta σ H d) : EvD R (tIf t ta tb) σ H d := fun H1 g Q q => h H1 g _ fun H2 g2 => iteT (h1 H2 (G.trans g g2) Q fun v H3 g3 t3 => q v H3 (G.trans g2 g3) t3)
theorem ev_ifF (G : Grow R) (h : EvT R t σ H false) (h1 : EvD R tb σ H d) : EvD R (tIf t ta tb) σ H d := fun H1 g Q q => h H1 g _ fun H2 g2 => iteF (h1 H2 (G.trans g g2) Q fun v H3 g3 t3 => q v H3 (G.trans g2 g3) t3)
/-! statements -/
variable {D : Ends} {ts tw tz : TS} {g : TG}
theorem s_ret (h : EvD R te σ H d) (k : ∀ v H1, R H H1 → Tp H1 v d → D.rt v H1) (G : Grow R) : tRet te D σ H := h H (G.refl H) _ fun v H1 g t => k v H1 g t
theorem s_retB {b : Bool} (h : EvB R te σ H b) (k : ∀ H1, R H H1 → D.rt (.bl b) H1) (G : Grow R) : tRet te D σ H := h H (G.refl H) _ fun H1 g => k H1 g
theorem s_set (G : Grow R) {i : Nat} (h : EvD R te σ H d) (k : ∀ v H1, R H H1 → Tp H1 v d → D.nx (σ.set i (some v)) H1) : tAsg te (gName i) D σ H := h H (G.refl H) _ fun v H1 g t => k v H1 g t
theorem q_set (G : Grow R) {i : Nat} (h : EvD R te σ H d) (k : ∀ v H1, R H H1 → Tp H1 v d → tz D (σ.set i (some v)) H1) : tSeq (tAsg te (gName i)) tz D σ H := h H (G.refl H) _ fun v H1 g t => k v H1 g t
theorem q_setB (G : Grow R) {i : Nat} {b : Bool} (h : EvB R te σ H b) (k : ∀ H1, R H H1 → tz D (σ.set i (some (.bl b))) H1) : tSeq (tAsg te (gName i)) tz D σ H := h H (G.refl H) _ fun H1 g => k H1 g
theorem q_ifT (G : Grow R) (h : EvT R t σ H true) (k : ∀ H1, R H H1 → ts { D with nx := tz D } σ H1) : tSeq (tIfS t ts tw) tz D σ H := h H (G.refl H) _ fun H1 g => iteT (k H1 g)
theorem q_ifF (G : Grow R) (h : EvT R t σ H false) (k : ∀ H1, R H H1 → tz D σ H1) : tSeq (tIfS t ts tNext) tz D σ H := h H (G.refl H) _ fun H1 g => iteF (k H1 g)
theorem q_if (G : Grow R) {b : Bool} (h : EvT R t σ H b) (k1 : b = true → ∀ H1, R H H1 → ts { D with nx := tz D } σ H1) (k2 : b = false → ∀ H1, R H H1 → tz D σ H1) : tSeq (tIfS t ts tNext) tz D σ H := by
  cases b with
  | true => exact q_ifT G h (k1 rfl)
  | false => exact q_ifF G h (k2 rfl)
theorem s_ifF (G : Grow R) (h : EvT R t σ H false) (k : ∀ H1, R H H1 → D.nx σ H1) : tIfS t ts tNext D σ H := h H (G.refl H) _ fun H1 g => iteF (k H1 g)
/-- side, more = a pair -/
theorem q_two (G : Grow R) {i j : Nat} {e f : PyData} (h : EvD R te σ H (.tuple [e, f])) (k : ∀ v w H1, R H H1 → Tp H1 v e → Tp H1 w f → tz D ((σ.set i (some v)).set j (some w)) H1) :
    tSeq (tAsg te (gTup K 2 (gCons (gName i) (gCons (gName j) gNil)))) tz D σ H := h H (G.refl H) _ fun v H1 g t => by
  obtain ⟨a, xs, rfl, ea, tt⟩ := t.tup_of
  cases tt with
  | cons a1 t1 =>
    cases t1 with
    | cons a2 t2 =>
      cases t2
      exact ⟨a, _, rfl, ea.sq, rfl, _, _, rfl, _, _, rfl, rfl, k _ _ H1 g a1 a2⟩
end
/-! promises -/
/-- on data, by a relation: data comes of it -/
def spD (pre : List PyData → PyData → Prop) : Sp := fun vs H Q _ => ∃ ds d, TpAll H vs ds ∧ pre ds d ∧ ∀ v H', Same H H' → Tp H' v d → Q v H'
def spB (pre : List PyData → Bool → Prop) : Sp := fun vs H Q _ => ∃ ds b, TpAll H vs ds ∧ pre ds b ∧ ∀ H', Same H H' → Q (.bl b) H'
def spN (pre : List PyData → Prop) : Sp := fun vs H Q _ => ∃ ds, TpAll H vs ds ∧ pre ds ∧ ∀ H', Same H H' → Q .non H'
section
variable {R : Hp → Hp → Prop} {σ : L2.St} {H : Hp} {ta : TA} {ds : List PyData} {d : PyData}
theorem ev_call (G : Grow R) {pre : List PyData → PyData → Prop} (ha : EvA R ta σ H ds) (hp : pre ds d) : EvD R (tCall (spD pre) [] E0 ta) σ H d := fun H1 g Q q =>
  ha H1 g _ fun vs H2 g2 t2 => by
    rw [List.append_nil]
    exact ⟨ds, d, t2, hp, fun v H3 g3 t3 => q v H3 (G.trans g2 (G.same g3)) t3⟩
theorem evb_call (G : Grow R) {pre : List PyData → Bool → Prop} {b : Bool} (ha : EvA R ta σ H ds) (hp : pre ds b) : EvB R (tCall (spB pre) [] E0 ta) σ H b := fun H1 g Q q =>
  ha H1 g _ fun vs H2 g2 t2 => by
    rw [List.append_nil]
    exact ⟨ds, b, t2, hp, fun H3 g3 => q H3 (G.trans g2 (G.same g3))⟩
theorem evn_call (G : Grow R) {pre : List PyData → Prop} (ha : EvA R ta σ H ds) (hp : pre ds) : EvV R (tCall (spN pre) [] E0 ta) σ H .non := fun H1 g Q q =>
  ha H1 g _ fun vs H2 g2 t2 => by
    rw [List.append_nil]
    exact ⟨ds, t2, hp, fun H3 g3 => q H3 (G.trans g2 (G.same g3))⟩
theorem q_drop (G : Grow R) {te : TE} {v : V} {D : Ends} {tz : TS} (h : EvV R te σ H v) (k : ∀ H1, R H H1 → tz D σ H1) : tSeq (tDrop te) tz D σ H := h H (G.refl H) _ fun H1 g => k H1 g
theorem s_drop (G : Grow R) {te : TE} {v : V} {D : Ends} (h : EvV R te σ H v) (k : ∀ H1, R H H1 → D.nx σ H1) : tDrop te D σ H := h H (G.refl H) _ fun H1 g => k H1 g
end
end Cw
/-! part CwOk -/
set_option Elab.async false
set_option linter.all false
set_option maxRecDepth 100000
set_option maxHeartbeats 1000000
/-! A def of the text with its facts, its promise kept, its call. -/
namespace Cw
open PySem PySem.Spec PyProof.Rows L2
structure FX (K : PySem.W.Frag) (mg : Str → Option Value) (x : Str) (st : Stmt) (dvs : List V) : Prop where
  ex : ∃ fd, FunD K x x (defArgs st) (defBody st) (defScope st) dvs [] (He.ga K x) fd
  gl : mg x = some (.ref (He.ga K x))
/-- fd is what stands at the def's place -/
def LkF (K : PySem.W.Frag) (x : Str) (fd : FuncData) : Prop := ∃ (oc : Value) (od : Option Addr) (osl : Array (Option Value)), K.lookup (He.ga K x) = some ⟨oc, od, .func fd, osl⟩
structure OkF (P : Program) (w : World) (K : PySem.W.Frag) (mg : Str → Option Value) (base : Heap) (x : Str) (ps : List Str) (k : Nat) (sp : Sp) : Prop where
  ex : ∃ fd, FnOk P w K mg base CX0 k (He.ga K x) fd ps sp ∧ Binds K fd ps [] ∧ PySem.W.keepIn K (.ref (He.ga K x)) = true ∧ LkF K x fd
  gl : mg x = some (.ref (He.ga K x))
theorem lkf_of {K : PySem.W.Frag} {x : Str} {st : Stmt} {dvs : List V} {fd : FuncData} (F : FunD K x x (defArgs st) (defBody st) (defScope st) dvs [] (He.ga K x) fd) : LkF K x fd := by
  obtain ⟨oc, od, dV, kV, doc, pm, an, cdv, ct, osl, rfl, lk, _⟩ := F.ex
  exact ⟨oc, od, osl, lk⟩
section
variable {P : Program} {w : World} {K : PySem.W.Frag} {mg : Str → Option Value} {base : Heap} {x : Str} {st : Stmt} {N ps : List Str} {k : Nat} {sp : Sp}
theorem FX.ok (F : FX K mg x st []) (S : FnScope N ps (defScope st)) (len : ∀ vs H Q E, sp vs H Q E → vs.length = ps.length)
    (hb : ∀ (kV doc pm : Value) (an : Option Addr) (cdv ct : Value) (us : List Value), us.length = ps.length → bindArgs (PySem.W.fnOf x x (defArgs st) (defBody st) (defScope st) .none kV doc pm an cdv ct) ⟨us, []⟩ = pure (ps.zip us))
    (body : ∀ (f : Addr) (cdv : Value) (A : Around) (outer : List Env) (s : Shared) (H : Hp) (vs : List V) (Q : VK) (E : XK), Room k (A.deeper (envOfC x (defScope st) s.heap.objs.size f cdv)) → sp vs H Q E →
      ∃ t, PSs (cxOf CX0 P w K mg base N x (defScope st) f cdv A outer s H E).nox (defBody st) t ∧ t { nx := fun _ H' => Q .non H', rt := Q } (start N vs) H) : OkF P w K mg base x ps (k + 1) sp := by
  obtain ⟨fd, F1⟩ := F.ex
  refine ⟨⟨fd, F1.ok S len fun cdv A outer s H vs Q E hr h => ?_, F1.bindsN hb, F1.kp, lkf_of F1⟩, F.gl⟩
  obtain ⟨t, h1, h2⟩ := body (He.ga K x) cdv A outer s H vs Q E hr h
  exact ⟨t, h1.nox, h2⟩
theorem OkF.mono {j : Nat} (O : OkF P w K mg base x ps j sp) (h : j ≤ k) : OkF P w K mg base x ps k sp := by
  obtain ⟨fd, F, b, kp⟩ := O.ex
  exact ⟨⟨fd, F.mono h, b, kp⟩, O.gl⟩
theorem OkF.imp {sp' : Sp} (O : OkF P w K mg base x ps k sp) (h : ∀ vs H Q E, sp' vs H Q E → sp vs H Q E) : OkF P w K mg base x ps k sp' := by
  obtain ⟨fd, F, b, kp⟩ := O.ex
  exact ⟨⟨fd, F.imp h, b, kp⟩, O.gl⟩
end
theorem pe_callO {X : Cx} {x : Str} {ps : List Str} {j k : Nat} {sp : Sp} {p pos : Pos} {e : Expr} {es : List Expr} {t : TA} (O : OkF X.prog X.w X.K X.mg X.base x ps j sp) (hr : Room k X.A) (hjk : j ≤ k := by omega) (hg : Gl X x := by rfl) (ha : PA X (e :: es) t)
    (hdb : (x == ("__debug__" : Str)) = false := by decide +kernel) (he : starEach (e :: es) X.env = (false, eval e X.env) :: starEach es X.env := by rfl) (hpl : (backTo pos (starEach es X.env)).any (·.1) = false := by rfl) :
    PE X (.Call (.Name x p) (e :: es) [] pos) (tCall sp [] E0 t) := by
  obtain ⟨fd, F, b, kp, _⟩ := O.ex
  exact pe_call F (hr.mono hjk) hg O.gl kp b .nil pass0 ha hdb he hpl
/-- a promise on data: how many arguments -/
theorem spD_len {n : Nat} {pre : List PyData → PyData → Prop} (h : ∀ ds d, pre ds d → ds.length = n) : ∀ vs H Q E, spD pre vs H Q E → vs.length = n := fun vs H Q E ⟨ds, d, t, p, _⟩ => t.len.trans (h ds d p)
theorem spB_len {n : Nat} {pre : List PyData → Bool → Prop} (h : ∀ ds d, pre ds d → ds.length = n) : ∀ vs H Q E, spB pre vs H Q E → vs.length = n := fun vs H Q E ⟨ds, d, t, p, _⟩ => t.len.trans (h ds d p)
theorem spN_len {n : Nat} {pre : List PyData → Prop} (h : ∀ ds, pre ds → ds.length = n) : ∀ vs H Q E, spN pre vs H Q E → vs.length = n := fun vs H Q E ⟨ds, t, p, _⟩ => t.len.trans (h ds p)
theorem tp1 {H : Hp} {vs : List V} {d : PyData} (h : TpAll H vs [d]) : ∃ v, vs = [v] ∧ Tp H v d := by
  cases h with
  | cons a t => cases t; exact ⟨_, rfl, a⟩
theorem tp2 {H : Hp} {vs : List V} {d e : PyData} (h : TpAll H vs [d, e]) : ∃ v w, vs = [v, w] ∧ Tp H v d ∧ Tp H w e := by
  cases h with
  | cons a t =>
    obtain ⟨w, rfl, b⟩ := tp1 t
    exact ⟨_, _, rfl, a, b⟩
theorem tp3 {H : Hp} {vs : List V} {d e f : PyData} (h : TpAll H vs [d, e, f]) : ∃ v w x, vs = [v, w, x] ∧ Tp H v d ∧ Tp H w e ∧ Tp H x f := by
  cases h with
  | cons a t =>
    obtain ⟨w, x, rfl, b, c⟩ := tp2 t
    exact ⟨_, _, _, rfl, a, b, c⟩
theorem tp4 {H : Hp} {vs : List V} {d e f g : PyData} (h : TpAll H vs [d, e, f, g]) : ∃ v w x y, vs = [v, w, x, y] ∧ Tp H v d ∧ Tp H w e ∧ Tp H x f ∧ Tp H y g := by
  cases h with
  | cons a t =>
    obtain ⟨w, x, y, rfl, b, c, d⟩ := tp3 t
    exact ⟨_, _, _, _, rfl, a, b, c, d⟩
/-! small rules -/
/-- isinstance(e, T) -/
theorem pe_isi {X : Cx} {e : Expr} {te : TE} (T : String) {x : Str} {p p2 pos : Pos} (he : PE X e te) (hi : X.mg "isinstance" = none) (hT : X.mg x = none) (hv : bootBuiltins x = some (.type T) := by decide +kernel) (hg : Gl X "isinstance" := by rfl) (hg2 : Gl X x := by rfl)
    (hn : x ≠ "__name__" := by decide +kernel) (hdb : (x == ("__debug__" : Str)) = false := by decide +kernel) (hs : starEach [e, .Name x p2] X.env = (false, eval e X.env) :: starEach [.Name x p2] X.env := by rfl) :
    PE X (.Call (.Name "isinstance" p) [e, .Name x p2] [] pos) (tCB (rIsi X.K) (tCons te (tCons (tC (.ty T)) tNil))) :=
  pe_callB call_isi hg hi (by decide +kernel) (pa_cons he (pa_cons (pe_bltn (v := .ty T) hg2 hT hv rfl hn hdb) pa_nil) hs) (he := hs)
end Cw
/-! part CwDat -/
set_option Elab.async false
set_option linter.all false
set_option maxRecDepth 100000
set_option maxHeartbeats 1000000
/-! Facts of the data: shapes; comparisons told by kinds. -/
namespace Cw
open PySem PySem.Spec PyProof.Rows L2
theorem shp_of {d : PyData} (h1 : d.canLay0 = true) (h2 : d.depth ≤ 64) : SeqAt.shaped d = true := by
  unfold SeqAt.shaped
  rw [h1, decide_eq_true h2]
  rfl
theorem shp_str {x : Str} (h : PyData.strOk x = true) : SeqAt.shaped (.str x) = true := shp_of (by rw [PyData.canLay0]; exact h) (by rw [PyData.depth]; omega)
theorem shp_int (i : Int) : SeqAt.shaped (.int i) = true := shp_of (by rw [PyData.canLay0]) (by rw [PyData.depth]; omega)
theorem shp_nil : SeqAt.shaped (.tuple []) = true := shp_of (by rw [PyData.canLay0, PyData.canLayAll0]) (by rw [PyData.depth, PyData.depthAll]; omega)
theorem lay_tup (xs : List PyData) : PyData.canLay0 (.tuple xs) = PyData.canLayAll0 xs := by rw [PyData.canLay0]
theorem lay_cons (x : PyData) (xs : List PyData) : PyData.canLayAll0 (x :: xs) = (x.canLay0 && PyData.canLayAll0 xs) := by rw [PyData.canLayAll0]
theorem lay_nil : PyData.canLayAll0 [] = true := by rw [PyData.canLayAll0]
theorem lay_int (i : Int) : (PyData.int i).canLay0 = true := by rw [PyData.canLay0]
theorem lay_str (x : Str) : (PyData.str x).canLay0 = PyData.strOk x := by rw [PyData.canLay0]
theorem dp_tup (xs : List PyData) : PyData.depth (.tuple xs) = PyData.depthAll xs + 1 := by rw [PyData.depth]
theorem dp_cons (x : PyData) (xs : List PyData) : PyData.depthAll (x :: xs) = max x.depth (PyData.depthAll xs) := by rw [PyData.depthAll]
theorem dp_nil : PyData.depthAll [] = 0 := by rw [PyData.depthAll]
theorem dp_int (i : Int) : (PyData.int i).depth = 0 := by rw [PyData.depth]
theorem dp_str (x : Str) : (PyData.str x).depth = 0 := by rw [PyData.depth]
theorem ok_pair : PyData.strOk ("pair" : Str) = true := by decide +kernel
theorem ok_either : PyData.strOk ("either" : Str) = true := by decide +kernel
theorem ok_unit : PyData.strOk ("unit" : Str) = true := by decide +kernel
theorem ok_num : PyData.strOk ("num" : Str) = true := by decide +kernel
theorem ok_bag : PyData.strOk ("bag" : Str) = true := by decide +kernel
theorem ok_fun : PyData.strOk ("fun" : Str) = true := by decide +kernel
theorem ok_left : PyData.strOk ("left" : Str) = true := by decide +kernel
theorem ok_right : PyData.strOk ("right" : Str) = true := by decide +kernel
theorem lay_encK : ∀ k : Kd, (encK k).canLay0 = true
  | .unit => by unfold encK; rw [lay_tup, lay_cons, lay_nil, lay_str, ok_unit]; rfl
  | .num => by unfold encK; rw [lay_tup, lay_cons, lay_nil, lay_str, ok_num]; rfl
  | .pair a b => by unfold encK; rw [lay_tup, lay_cons, lay_cons, lay_cons, lay_nil, lay_str, ok_pair, lay_encK a, lay_encK b]; rfl
  | .either a b => by unfold encK; rw [lay_tup, lay_cons, lay_cons, lay_cons, lay_nil, lay_str, ok_either, lay_encK a, lay_encK b]; rfl
  | .bag a => by unfold encK; rw [lay_tup, lay_cons, lay_cons, lay_nil, lay_str, ok_bag, lay_encK a]; rfl
theorem dp_encK : ∀ k : Kd, (encK k).depth ≤ k.dep
  | .unit => by unfold encK; rw [dp_tup, dp_cons, dp_nil, dp_str]; show 0 + 1 ≤ 1; omega
  | .num => by unfold encK; rw [dp_tup, dp_cons, dp_nil, dp_str]; show 0 + 1 ≤ 1; omega
  | .pair a b => by
    have h1 := dp_encK a
    have h2 := dp_encK b
    unfold encK
    rw [dp_tup, dp_cons, dp_cons, dp_cons, dp_nil, dp_str]
    show _ ≤ max a.dep b.dep + 1
    omega
  | .either a b => by
    have h1 := dp_encK a
    have h2 := dp_encK b
    unfold encK
    rw [dp_tup, dp_cons, dp_cons, dp_cons, dp_nil, dp_str]
    show _ ≤ max a.dep b.dep + 1
    omega
  | .bag a => by
    have h1 := dp_encK a
    unfold encK
    rw [dp_tup, dp_cons, dp_cons, dp_nil, dp_str]
    show _ ≤ a.dep + 1
    omega
theorem lay_all {α : Type} (f : α → PyData) (h : ∀ x, (f x).canLay0 = true) : ∀ xs : List α, PyData.canLayAll0 (xs.map f) = true
  | [] => lay_nil
  | x :: xs => by
    show PyData.canLayAll0 (f x :: xs.map f) = true
    rw [lay_cons, h, lay_all f h xs]
    rfl
theorem dp_all {α : Type} (f : α → PyData) {n : Nat} (h : ∀ x, (f x).depth ≤ n) : ∀ xs : List α, PyData.depthAll (xs.map f) ≤ n
  | [] => by show PyData.depthAll [] ≤ n; rw [dp_nil]; omega
  | x :: xs => by
    show PyData.depthAll (f x :: xs.map f) ≤ n
    rw [dp_cons]
    have := h x
    have := dp_all f h xs
    omega
theorem lay_enc : ∀ (k : Kd) (v : Vl k), (enc k v).canLay0 = true
  | .unit, _ => by show PyData.canLay0 (.tuple []) = true; rw [lay_tup, lay_nil]
  | .num, x => lay_int _
  | .pair a b, x => by show PyData.canLay0 (.tuple [.str "pair", enc a x.1, enc b x.2]) = true; rw [lay_tup, lay_cons, lay_cons, lay_cons, lay_nil, lay_str, ok_pair, lay_enc a, lay_enc b]; rfl
  | .either a b, .inl x => by show PyData.canLay0 (.tuple [.str "left", enc a x]) = true; rw [lay_tup, lay_cons, lay_cons, lay_nil, lay_str, ok_left, lay_enc a]; rfl
  | .either a b, .inr x => by show PyData.canLay0 (.tuple [.str "right", enc b x]) = true; rw [lay_tup, lay_cons, lay_cons, lay_nil, lay_str, ok_right, lay_enc b]; rfl
  | .bag a, x => by
    show PyData.canLay0 (.tuple (List.map (encP a) x)) = true
    rw [lay_tup]
    exact lay_all (encP a) (fun p => by unfold encP; rw [lay_tup, lay_cons, lay_cons, lay_nil, lay_int, lay_enc a]; rfl) x
theorem dp_enc : ∀ (k : Kd) (v : Vl k), (enc k v).depth ≤ 2 * k.dep
  | .unit, _ => by show PyData.depth (.tuple []) ≤ 2; rw [dp_tup, dp_nil]; omega
  | .num, x => by show PyData.depth (.int _) ≤ 2; rw [dp_int]; omega
  | .pair a b, x => by
    have h1 := dp_enc a x.1
    have h2 := dp_enc b x.2
    show PyData.depth (.tuple [.str "pair", enc a x.1, enc b x.2]) ≤ 2 * (max a.dep b.dep + 1)
    rw [dp_tup, dp_cons, dp_cons, dp_cons, dp_nil, dp_str]
    omega
  | .either a b, .inl x => by
    have h1 := dp_enc a x
    show PyData.depth (.tuple [.str "left", enc a x]) ≤ 2 * (max a.dep b.dep + 1)
    rw [dp_tup, dp_cons, dp_cons, dp_nil, dp_str]
    omega
  | .either a b, .inr x => by
    have h1 := dp_enc b x
    show PyData.depth (.tuple [.str "right", enc b x]) ≤ 2 * (max a.dep b.dep + 1)
    rw [dp_tup, dp_cons, dp_cons, dp_nil, dp_str]
    omega
  | .bag a, x => by
    show PyData.depth (.tuple (List.map (encP a) x)) ≤ 2 * (a.dep + 1)
    rw [dp_tup]
    have := dp_all (encP a) (n := 2 * a.dep + 1) (fun p => by
      have := dp_enc a p.1
      unfold encP
      rw [dp_tup, dp_cons, dp_cons, dp_nil, dp_int]
      omega) x
    omega
theorem shp_encK {k : Kd} (h : k.dep ≤ 30) : SeqAt.shaped (encK k) = true := shp_of (lay_encK k) (by have := dp_encK k; omega)
theorem shp_enc {k : Kd} (v : Vl k) (h : k.dep ≤ 30) : SeqAt.shaped (enc k v) = true := shp_of (lay_enc k v) (by have := dp_enc k v; omega)
theorem shp_encP {a : Kd} (p : Vl a × Int) (h : a.dep ≤ 30) : SeqAt.shaped (encP a p) = true := by
  have := dp_enc a p.1
  unfold encP
  refine shp_of ?_ ?_
  · rw [lay_tup, lay_cons, lay_cons, lay_nil, lay_int, lay_enc a]; rfl
  · rw [dp_tup, dp_cons, dp_cons, dp_nil, dp_int]; omega
/-! comparisons -/
section
variable {R : Hp → Hp → Prop} {σ : L2.St} {H : Hp} {ta tb : TE} {K : PySem.W.Frag}
/-- x == y of texts, of numbers -/
theorem evb_eqS (G : Grow R) {x y : Str} (ha : EvD R ta σ H (.str x)) (hb : EvD R tb σ H (.str y)) (ox : PyData.strOk x = true := by decide +kernel) (oy : PyData.strOk y = true := by decide +kernel) : EvB R (tOp (rEqD K) ta tb) σ H (decide (x = y)) := by
  have h := evb_eq (K := K) G ha hb (shp_str ox) (shp_str oy)
  rw [eqv_str] at h
  have e : (x == y) = decide (x = y) := Bool.beq_eq_decide_eq _ _
  rw [e] at h
  exact h
theorem evb_neS (G : Grow R) {x y : Str} (ha : EvD R ta σ H (.str x)) (hb : EvD R tb σ H (.str y)) (ox : PyData.strOk x = true := by decide +kernel) (oy : PyData.strOk y = true := by decide +kernel) : EvB R (tOp (rNeD K) ta tb) σ H (!decide (x = y)) := by
  have h := evb_ne (K := K) G ha hb (shp_str ox) (shp_str oy)
  rw [eqv_str] at h
  have e : (x == y) = decide (x = y) := Bool.beq_eq_decide_eq _ _
  rw [e] at h
  exact h
theorem evb_eqI (G : Grow R) {x y : Int} (ha : EvD R ta σ H (.int x)) (hb : EvD R tb σ H (.int y)) : EvB R (tOp (rEqD K) ta tb) σ H (decide (x = y)) := by
  have h := evb_eq (K := K) G ha hb (shp_int x) (shp_int y)
  rw [eqv_int] at h
  have e : (x == y) = decide (x = y) := Bool.beq_eq_decide_eq _ _
  rw [e] at h
  exact h
theorem evb_neI (G : Grow R) {x y : Int} (ha : EvD R ta σ H (.int x)) (hb : EvD R tb σ H (.int y)) : EvB R (tOp (rNeD K) ta tb) σ H (!decide (x = y)) := by
  have h := evb_ne (K := K) G ha hb (shp_int x) (shp_int y)
  rw [eqv_int] at h
  have e : (x == y) = decide (x = y) := Bool.beq_eq_decide_eq _ _
  rw [e] at h
  exact h
theorem EvB.to {te : TE} {b c : Bool} (h : EvB R te σ H b) (e : b = c) : EvB R te σ H c := e ▸ h
theorem EvD.to {te : TE} {d e : PyData} (h : EvD R te σ H d) (q : d = e) : EvD R te σ H e := q ▸ h
theorem evb_isiD (G : Grow R) {d : PyData} (T : String) {b : Bool} (ha : EvD R ta σ H d) (hk : kitB (tyD d) T = some b) : EvB R (tCB (rIsi K) (tCons ta (tCons (tC (.ty T)) tNil))) σ H b := evb_isi G ha hk
end
end Cw
/-! part CwFs -/
set_option Elab.async false
set_option linter.all false
/-! What the head leaves: the defs, the built-in names that are free, the table. -/
namespace Cw
open PySem PySem.Spec PyProof.Rows L2
def sizes0 : List (Str × Nat) := [("unit", 1), ("num", 1), ("pair", 3), ("either", 3), ("bag", 2), ("fun", 3)]
structure KzAt (K : PySem.W.Frag) (w : World) (d : Addr) : Prop where
  kd : ∃ es n, KDict K w d es n
  val : ∀ q ∈ sizes0, ∃ u, PySem.W.nsIn K d q.1 = some (some u) ∧ RelV (.int q.2) u
structure Fs (w : World) (K : PySem.W.Frag) (mg : Str → Option Value) : Prop where
  kz : ∃ d, mg "KIND_SIZES" = some (.ref d) ∧ KzAt K w d
  zisinstance : mg "isinstance" = none
  zint : mg "int" = none
  zbool : mg "bool" = none
  ztuple : mg "tuple" = none
  zstr : mg "str" = none
  zlen : mg "len" = none
  zall : mg "all" = none
  zzip : mg "zip" = none
  zsorted : mg "sorted" = none
  zdict : mg "dict" = none
  zlist : mg "list" = none
  zrange : mg "range" = none
  zrepr : mg "repr" = none
  zabs : mg "abs" = none
  zdivmod : mg "divmod" = none
  zmax : mg "max" = none
  zmin : mg "min" = none
  f_is_whole : FX K mg "is_whole" s_is_whole []
  f_is_kinded : FX K mg "is_kinded" s_is_kinded [.int 100]
  f_is_plain : FX K mg "is_plain" s_is_plain []
  f_is_data : FX K mg "is_data" s_is_data []
  f_is_valued : FX K mg "is_valued" s_is_valued []
  f_is_counted : FX K mg "is_counted" s_is_counted []
  f_are_counted : FX K mg "are_counted" s_are_counted []
  f_is_paired : FX K mg "is_paired" s_is_paired []
  f_bag_by : FX K mg "bag_by" s_bag_by []
  f_sum_of_bags : FX K mg "sum_of_bags" s_sum_of_bags []
  f_plus_by : FX K mg "plus_by" s_plus_by []
  f_times_by : FX K mg "times_by" s_times_by []
  f_is_side : FX K mg "is_side" s_is_side []
  f_is_change_by : FX K mg "is_change_by" s_is_change_by []
  f_part_kind : FX K mg "part_kind" s_part_kind []
  f_fits_by : FX K mg "fits_by" s_fits_by []
  f_led_by : FX K mg "led_by" s_led_by []
  f_less_by : FX K mg "less_by" s_less_by []
  f_settled_by : FX K mg "settled_by" s_settled_by []
  f_check_kind_that : FX K mg "check_kind_that" s_check_kind_that []
  f_check_data : FX K mg "check_data" s_check_data []
  f_check_value : FX K mg "check_value" s_check_value []
  f_check_valued : FX K mg "check_valued" s_check_valued []
  f_check_change : FX K mg "check_change" s_check_change []
  f_check_fitting : FX K mg "check_fitting" s_check_fitting []
  f_settled : FX K mg "settled" s_settled []
  f_are_alike : FX K mg "are_alike" s_are_alike []
  f_changes_nothing : FX K mg "changes_nothing" s_changes_nothing []
  f_law_urn : FX K mg "_law_urn" s_law_urn []
  f_law_pull : FX K mg "_law_pull" s_law_pull []
  f_law_one : FX K mg "_law_one" s_law_one []
  f_law_is : FX K mg "_law_is" s_law_is []
  f_law_truth : FX K mg "_law_truth" s_law_truth []
  f_law_plain_kind : FX K mg "_law_plain_kind" s_law_plain_kind []
  f_law_data_kind : FX K mg "_law_data_kind" s_law_data_kind []
  f_law_bag : FX K mg "_law_bag" s_law_bag []
  f_law_whole : FX K mg "_law_whole" s_law_whole []
  f_law_value : FX K mg "_law_value" s_law_value []
  f_law_plus : FX K mg "_law_plus" s_law_plus []
  f_law_many : FX K mg "_law_many" s_law_many []
  f_law_d : FX K mg "_law_d" s_law_d []
  f_law_fits : FX K mg "_law_fits" s_law_fits []
  f_law_led : FX K mg "_law_led" s_law_led []
  f_law_less : FX K mg "_law_less" s_law_less []
  f_law_change : FX K mg "_law_change" s_law_change []
  f_law_still : FX K mg "_law_still" s_law_still []
  f_law_otherwise : FX K mg "_law_otherwise" s_law_otherwise []
  f_law_right : FX K mg "_law_right" s_law_right []
  f_law : FX K mg "law" s_law []
end Cw
/-! part CwLc -/
set_option Elab.async false
set_option linter.all false
set_option maxRecDepth 100000
set_option maxHeartbeats 1000000
/-! Slices, comprehensions, all(..): readings told by data. -/
namespace Cw
open PySem PySem.Spec PyProof.Rows L2 RZ
theorem boot_all : bootBuiltins "all" = some (.builtin "all") := by decide +kernel
theorem boot_abs : bootBuiltins "abs" = some (.builtin "abs") := by decide +kernel
theorem boot_divmod : bootBuiltins "divmod" = some (.builtin "divmod") := by decide +kernel
theorem boot_max : bootBuiltins "max" = some (.builtin "max") := by decide +kernel
theorem boot_min : bootBuiltins "min" = some (.builtin "min") := by decide +kernel
theorem boot_int : bootBuiltins "int" = some (.type "int") := by decide +kernel
theorem boot_tuple : bootBuiltins "tuple" = some (.type "tuple") := by decide +kernel
theorem boot_list : bootBuiltins "list" = some (.type "list") := by decide +kernel
theorem boot_dict : bootBuiltins "dict" = some (.type "dict") := by decide +kernel
theorem boot_sorted : bootBuiltins "sorted" = some (.builtin "sorted") := by decide +kernel
theorem boot_repr : bootBuiltins "repr" = some (.builtin "repr") := by decide +kernel
section
variable {R : Hp → Hp → Prop} {K : PySem.W.Frag} {σ : L2.St} {H : Hp} {ta tb te : TE} {d : PyData}
/-- a tuple of data, read only -/
def EvQ (R : Hp → Hp → Prop) (te : TE) (σ : L2.St) (H : Hp) (ds : List PyData) : Prop := ∀ H1, R H H1 → ∀ Q : VK, (∀ a xs H2, R H1 H2 → Rd H2 a (.tup xs) → TpAll H2 xs ds → Q (.ref a) H2) → te σ H1 Q
theorem EvD.q {ds : List PyData} (h : EvD R te σ H (.tuple ds)) : EvQ R te σ H ds := fun H1 g Q q => h H1 g _ fun v H2 g2 t => by
  obtain ⟨a, xs, rfl, ea, tt⟩ := t.tup_of
  exact q a xs H2 g2 ea.rd tt
theorem rd_same {H H' : Hp} {a : Addr} {u : HO} (s : Same H H') (h : Rd H a u) : Rd H' a u := h.elim (fun e => .inl (s _ _ e)) fun ⟨o, e⟩ => .inr ⟨o, s _ _ e⟩
/-- t[1:] -/
theorem evq_tail (G : Grow R) {ds : List PyData} (h : EvD R te σ H (.tuple ds)) : EvQ R (tSl (rSlA K) te (tPart (tC (.int 1))) tNoPart) σ H (ds.drop 1) := fun H1 g Q q =>
  h H1 g _ fun v H2 g2 t => by
    obtain ⟨a, xs, rfl, ea, tt⟩ := t.tup_of
    have hl := tt.len
    have e1 : HT.sIx xs.length 0 (some 1) = min 1 xs.length := HT.sIx_nat xs.length 0 1
    have e2 : HT.sIx xs.length xs.length none = xs.length := rfl
    refine ⟨1, rfl, a, xs, rfl, ea.sq, fun hw => ?_, fun hn p hp => ?_⟩
    · rw [e1] at hw
      have h0 : xs.length = 0 := by omega
      have hd : ds.drop 1 = ds := by
        have : ds = [] := List.length_eq_zero_iff.mp (by omega)
        rw [this]; rfl
      exact q _ xs H2 g2 ea.rd (by rw [hd]; exact tt)
    · rw [e1, e2] at hn
      have hc : cutV xs (some 1) none = xs.drop 1 := by
        unfold cutV
        rw [e1, e2]
        by_cases h0 : xs.length = 0
        · exact absurd ⟨by omega, rfl⟩ hn
        · rw [show min 1 xs.length = 1 from by omega]
          exact List.take_of_length_le (by rw [List.length_drop]; exact Nat.le_refl _)
      have hQ : Q (.ref p) (upd H2 p (.tup (xs.drop 1))) := q p _ _ (G.trans g2 (G.same (same_new hp _))) (.inl upd_same) ((tt.drop 1).mono (TK.same (same_new hp _)))
      rw [← hc] at hQ
      exact hQ
/-! ### a walk over data -/
/-- the iterator gives the data ds, whatever is added to the heap -/
def Walk {α : Type} (Im : Hp → V → α → Prop) (J : It) (H : Hp) (ds : List α) : Prop := ∀ Hc, Same H Hc → (∀ i, ds.length ≤ i → J.stop i Hc) ∧ ∀ i d, ds[i]? = some d → J.go i Hc ∧ ∀ x H', J.yld i Hc x H' → Same Hc H' ∧ Im H' x d
theorem walk_tup {α : Type} {c : α → PyData} {a : Addr} {xs : List V} {ks : List α} (e : Rd H a (.tup xs)) (t : TpAll H xs (ks.map c)) : Walk (fun H v k => Tp H v (c k)) (Itt K a) H ks := fun Hc s => by
  have e' : SqT K Hc a xs := .inl (rd_same s e)
  have t' := t.mono (TK.same s)
  refine ⟨fun i hi => ⟨xs, e', by rw [t'.len, List.length_map]; exact hi⟩, fun i d hd => ?_⟩
  obtain ⟨v, hv, tv⟩ := t'.get (d := c d) (by rw [List.getElem?_map, hd]; rfl)
  refine ⟨⟨xs, v, e', hv⟩, fun x H' y => ?_⟩
  obtain ⟨e1, hy⟩ := y
  rw [e1]
  have := hy xs (e')
  rw [hv] at this
  cases this
  exact ⟨Same.refl _, tv⟩
theorem walk_lst {α : Type} {c : α → PyData} {a : Addr} {xs : List V} {ks : List α} (e : H a = some (.lst xs)) (t : TpAll H xs (ks.map c)) : Walk (fun H v k => Tp H v (c k)) (Itl K a) H ks := fun Hc s => by
  have e' : Hc a = some (.lst xs) := s _ _ e
  have sq : SqL K Hc a xs := .inl (.inl e')
  have t' := t.mono (TK.same s)
  refine ⟨fun i hi => ⟨xs, sq, by rw [t'.len, List.length_map]; exact hi⟩, fun i d hd => ?_⟩
  obtain ⟨v, hv, tv⟩ := t'.get (d := c d) (by rw [List.getElem?_map, hd]; rfl)
  refine ⟨⟨xs, v, sq, hv⟩, fun x H' y => ?_⟩
  obtain ⟨e1, hy⟩ := y
  rw [e1]
  have := hy xs sq
  rw [hv] at this
  cases this
  exact ⟨Same.refl _, tv⟩
variable (R) in
def EvG {γ : Type} (Ent : Hp → V → γ → Prop) (te : TE) (σ : L2.St) (H : Hp) (e : γ) : Prop := ∀ H1, R H H1 → ∀ Q : VK, (∀ v H2, R H1 H2 → Ent H2 v e → Q v H2) → te σ H1 Q
theorem EvD.g (h : EvD R te σ H d) : EvG R Tp te σ H d := h
theorem EvB.g {b : Bool} (h : EvB R te σ H b) : EvG R (fun _ v b => v = .bl b) te σ H b := fun H1 g Q q => h H1 g Q fun H2 g2 => q _ H2 g2 rfl
theorem same_upd {H : Hp} {D : Addr} {o u : HO} (h : H D = some o) {H0 : Hp} (s : Same H0 H) (n : H0 D = none) : Same H0 (upd H D u) := fun b x q => by rw [upd_ne (ne_of_none q n)]; exact s b x q
theorem lc_walk {α γ : Type} {Im : Hp → V → α → Prop} {Ent : Hp → V → γ → Prop} {J : It} {g : TG} {tt : TT} {te : TE} {vs : List Nat} {D : Addr} {Qd : Hp → Prop} {ks : List α} {f : α → Option γ} (mono : ∀ {H H' v e}, Same H H' → Ent H v e → Ent H' v e) (ekeep : ∀ {H D o v e}, Ent H v e → Ent (upd H D (.lst o)) v e ∨ ∃ o u, H D = some (.frz o u))
    (hz : ks.length ≤ 1000) (w : Walk Im J H ks) (hD : H D = none)
    (hs : ∀ d ∈ ks, ∀ Hc v, Same H Hc → Im Hc v d → ∃ σ2, wipe σ2 vs = wipe σ vs ∧ (∀ k : L2.St → Hp → Prop, k σ2 Hc → g v (wipe σ vs) Hc k) ∧ ∃ b, EvT Same tt σ2 Hc b ∧ (b = false → f d = none) ∧ (b = true → ∃ e, f d = some e ∧ EvG Same Ent te σ2 Hc e))
    (hd : ∀ Hc acc, Same H Hc → Hc D = some (.lst acc) → Paired (Ent Hc) acc (ks.filterMap f) → Qd Hc) :
    ∃ W : Nat → Nat → Hp → Prop, (∃ m, W 0 m (upd H D (.lst []))) ∧ ∀ i m H, W i m H →
      (J.stop i H ∧ Qd H) ∨ (J.go i H ∧ ∃ Nx : Hp → Prop, (∀ H', Nx H' → ∃ m', m' < m ∧ W (i + 1) m' H') ∧ ∀ x H', J.yld i H x H' → g x (wipe σ vs) H' fun σ2 H2 => wipe σ2 vs = wipe σ vs ∧ tt σ2 H2 fun b H3 =>
        if b = true then te σ2 H3 fun y H4 => ∃ acc, H4 D = some (.lst acc) ∧ acc.length < sizeLine ∧ Nx (upd H4 D (.lst (acc ++ [y]))) else Nx H3) := by
  have pmono : ∀ {H H' : Hp} {acc es}, Same H H' → Paired (Ent H) acc es → Paired (Ent H') acc es := fun s p => Paired.mapP p fun a b => mono s
  have pkeep : ∀ {H : Hp} {acc o es}, H D = some (.lst o) → Paired (Ent H) acc es → ∀ u, Paired (Ent (upd H D (.lst u))) acc es := fun {H acc o es} e p u => Paired.mapP p fun a b z => by
    rcases ekeep (D := D) (o := u) z with q | ⟨_, _, q⟩
    · exact q
    · rw [e] at q; cases q
  refine ⟨fun i m Hc => m = ks.length - i ∧ i ≤ ks.length ∧ Same H Hc ∧ ∃ acc, Hc D = some (.lst acc) ∧ acc.length ≤ i ∧ Paired (Ent Hc) acc ((ks.take i).filterMap f), ⟨ks.length, by simp, Nat.zero_le _, same_new hD _, [], upd_same, Nat.le_refl _, .nil⟩, ?_⟩
  rintro i m Hc ⟨rfl, hi, s, acc, ea, hl, pa⟩
  obtain ⟨w1, w2⟩ := w Hc s
  by_cases hlt : i < ks.length
  · obtain ⟨go, yl⟩ := w2 i ks[i] (List.getElem?_eq_getElem hlt)
    refine .inr ⟨go, fun Hc => Same H Hc ∧ ∃ acc, Hc D = some (.lst acc) ∧ acc.length ≤ i + 1 ∧ Paired (Ent Hc) acc ((ks.take (i + 1)).filterMap f), fun H' ⟨s', q⟩ => ⟨ks.length - (i + 1), by omega, rfl, hlt, s', q⟩, fun x H' y => ?_⟩
    obtain ⟨s1, tx⟩ := yl x H' y
    obtain ⟨σ2, hw, hg, b, ht, hf, hb⟩ := hs ks[i] (List.getElem_mem hlt) H' x (s.trans s1) tx
    have et : (ks.take (i + 1)).filterMap f = (ks.take i).filterMap f ++ (match f ks[i] with | some e => [e] | none => []) := by
      rw [List.take_succ_eq_append_getElem hlt, List.filterMap_append]
      congr 1
      cases q : f ks[i] with
      | none => rw [List.filterMap_cons_none q]; rfl
      | some e => rw [List.filterMap_cons_some q]; rfl
    refine hg _ ⟨hw, ht H' (Same.refl _) _ fun H3 s3 => ?_⟩
    cases b with
    | false =>
      refine iteF ⟨(s.trans s1).trans s3, acc, s3 _ _ (s1 _ _ ea), by omega, ?_⟩
      rw [et, hf rfl, List.append_nil]
      exact pmono (s1.trans s3) pa
    | true =>
      obtain ⟨e, fe, he⟩ := hb rfl
      refine iteT (he H3 s3 _ fun y H4 s4 ey => ?_)
      have e4 : H4 D = some (.lst acc) := s4 _ _ (s3 _ _ (s1 _ _ ea))
      refine ⟨acc, e4, by rw [sizeLine_eq]; omega, same_upd e4 (((s.trans s1).trans s3).trans s4) hD, acc ++ [y], upd_same, by rw [List.length_append]; show _ + 1 ≤ _; omega, ?_⟩
      rw [et, fe]
      refine Paired.snoc (pkeep e4 (pmono ((s1.trans s3).trans s4) pa) _) ?_
      rcases ekeep (D := D) (o := acc ++ [y]) ey with q | ⟨_, _, q⟩
      · exact q
      · rw [e4] at q; cases q
  · have e : i = ks.length := by omega
    subst e
    refine .inl ⟨w1 _ (Nat.le_refl _), hd Hc acc s ea ?_⟩
    rw [List.take_length] at pa
    exact pa
theorem tp_keep {D : Addr} {o : List V} {v : V} (h : Tp H v d) : Tp (upd H D (.lst o)) v d ∨ ∃ p u, H D = some (.frz p u) := by
  by_cases z : ∃ p u, H D = some (.frz p u)
  · exact .inr z
  · refine .inl (h.mono fun b p u e => ?_)
    have ne : b ≠ D := fun k => z ⟨p, u, by rw [← k]; exact e⟩
    rw [upd_ne ne]
    exact e
theorem paired_tp : ∀ {vs : List V} {ds : List PyData}, Paired (Tp H) vs ds → TpAll H vs ds
  | _, _, .nil => .nil
  | _, _, .cons a t => .cons a (paired_tp t)
theorem paired_bl : ∀ {vs : List V} {bs : List Bool}, Paired (fun v b => v = V.bl b) vs bs → vs = bs.map V.bl
  | _, _, .nil => rfl
  | _, _, .cons a t => by rw [a, paired_bl t]; rfl
theorem wipe1 {i : Nat} {v : V} : wipe ((wipe σ [i]).set i (some v)) [i] = wipe σ [i] := by
  show ((σ.set i none).set i (some v)).set i none = σ.set i none
  rw [List.set_set, List.set_set]
/-- all([p(x) for x in t]) -/
theorem evb_all (G : Grow R) {α : Type} {c : α → PyData} {i : Nat} {tel : TE} {ks : List α} {p : α → Bool} (hs : EvQ R te σ H (ks.map c)) (hz : ks.length ≤ 1000)
    (he : ∀ d ∈ ks, ∀ Hc v, R H Hc → Tp Hc v (c d) → EvB Same tel ((wipe σ [i]).set i (some v)) Hc (p d)) : EvB R (tCB (rAll K) (tCons (tLc (iTup K te) (gName i) tYes tel [i]) tNil)) σ H (ks.all p) := fun H1 g Q q =>
  hs H1 g _ fun a xs H2 g2 ea tt => by
    refine ⟨a, rfl, ⟨xs, .inl ea⟩, fun D hD => lc_walk (Ent := fun _ v b => v = V.bl b) (f := fun d => some (p d)) (fun _ h => h) (fun h => .inl h) hz (walk_tup ea tt) hD (fun d hd Hc v s tv => ?_) fun Hc acc s eD pa => ?_⟩
    · exact ⟨_, wipe1, fun k h => h, true, fun H3 s3 Q3 q3 => q3 H3 (Same.refl _), (fun h => by cases h), fun _ => ⟨_, rfl, EvB.g (he d hd Hc v (G.trans (G.trans g g2) (G.same s)) tv)⟩⟩
    · have e := paired_bl pa
      refine ⟨D, (ks.filterMap fun d => some (p d)), rfl, .inl (.inl (by rw [← e]; exact eD)), ?_⟩
      have e2 : (ks.filterMap fun d => some (p d)).all id = ks.all p := by
        rw [show (fun d => some (p d)) = some ∘ p from rfl, List.filterMap_eq_map, List.all_map]
        rfl
      rw [e2]
      exact q Hc (G.trans g2 (G.same s))
/-- a new list of data -/
def EvL (R : Hp → Hp → Prop) (te : TE) (σ : L2.St) (H : Hp) (ds : List PyData) : Prop := ∀ H1, R H H1 → ∀ Q : VK, (∀ l vs H2, R H1 H2 → H2 l = some (.lst vs) → TpAll H2 vs ds → Q (.ref l) H2) → te σ H1 Q
/-- [e(x) for x in t if c(x)] over a tuple; over a list -/
theorem evl_tup (G : Grow R) {α : Type} {c : α → PyData} {g : TG} {tt : TT} {tel : TE} {vs : List Nat} {ks : List α} {f : α → Option PyData} (hs : EvQ R te σ H (ks.map c)) (hz : ks.length ≤ 1000)
    (he : ∀ d ∈ ks, ∀ Hc v, R H Hc → Tp Hc v (c d) → ∃ σ2, wipe σ2 vs = wipe σ vs ∧ (∀ k : L2.St → Hp → Prop, k σ2 Hc → g v (wipe σ vs) Hc k) ∧ ∃ b, EvT Same tt σ2 Hc b ∧ (b = false → f d = none) ∧ (b = true → ∃ e, f d = some e ∧ EvD Same tel σ2 Hc e)) :
    EvL R (tLc (iTup K te) g tt tel vs) σ H (ks.filterMap f) := fun H1 g1 Q q =>
  hs H1 g1 _ fun a xs H2 g2 ea tt => by
    refine ⟨a, rfl, ⟨xs, .inl ea⟩, fun D hD => lc_walk (Ent := Tp) (f := f) (fun s h => h.mono (TK.same s)) tp_keep hz (walk_tup ea tt) hD (fun d hd Hc v s tv => he d hd Hc v (G.trans (G.trans g1 g2) (G.same s)) tv) fun Hc acc s eD pa => ?_⟩
    exact q D acc Hc (G.trans g2 (G.same s)) eD (paired_tp pa)
theorem evl_lst (G : Grow R) {α : Type} {c : α → PyData} {g : TG} {tt : TT} {tel : TE} {vs : List Nat} {ks : List α} {f : α → Option PyData} (hs : EvL R te σ H (ks.map c)) (hz : ks.length ≤ 1000)
    (he : ∀ d ∈ ks, ∀ Hc v, R H Hc → Tp Hc v (c d) → ∃ σ2, wipe σ2 vs = wipe σ vs ∧ (∀ k : L2.St → Hp → Prop, k σ2 Hc → g v (wipe σ vs) Hc k) ∧ ∃ b, EvT Same tt σ2 Hc b ∧ (b = false → f d = none) ∧ (b = true → ∃ e, f d = some e ∧ EvD Same tel σ2 Hc e)) :
    EvL R (tLc (iList K te) g tt tel vs) σ H (ks.filterMap f) := fun H1 g1 Q q =>
  hs H1 g1 _ fun a xs H2 g2 ea tt => by
    refine ⟨a, rfl, ⟨xs, .inl (.inl ea)⟩, fun D hD => lc_walk (Ent := Tp) (f := f) (fun s h => h.mono (TK.same s)) tp_keep hz (walk_lst ea tt) hD (fun d hd Hc v s tv => he d hd Hc v (G.trans (G.trans g1 g2) (G.same s)) tv) fun Hc acc s eD pa => ?_⟩
    exact q D acc Hc (G.trans g2 (G.same s)) eD (paired_tp pa)
/-- tuple(list) -/
theorem ev_tupleL (G : Grow R) {ds : List PyData} (h : EvL R te σ H ds) : EvD R (tCB (rTupL K) (tCons te tNil)) σ H (.tuple ds) := fun H1 g Q q =>
  h H1 g _ fun a xs H2 g2 ea tt => ⟨a, xs, rfl, .inl (.inl ea), fun l o hl hn => q _ _ (G.trans g2 (G.same (same_new hl _))) (.tup ⟨o, hn, upd_same⟩ (tt.mono (TK.same (same_new hl _))))⟩
theorem wipe2 {i j : Nat} {v w : V} (h : i ≠ j) : wipe (((wipe σ [i, j]).set i (some v)).set j (some w)) [i, j] = wipe σ [i, j] := by
  show (((((σ.set j none).set i none).set i (some v)).set j (some w)).set j none).set i none = (σ.set j none).set i none
  rw [List.set_set, List.set_set, List.set_comm _ _ (Ne.symm h), List.set_set, List.set_comm _ _ h, List.set_set]
theorem walk_zip {α β : Type} {c : α → PyData} {e : β → PyData} {a b : Addr} {xs ys : List V} {ks : List α} {ls : List β} (ea : Rd H a (.tup xs)) (eb : Rd H b (.tup ys)) (t : TpAll H xs (ks.map c)) (u : TpAll H ys (ls.map e)) :
    Walk (fun H v d => ∃ T x y, v = V.ref T ∧ Rd H T (.tup [x, y]) ∧ Tp H x (c d.1) ∧ Tp H y (e d.2)) (ItzT K a b) H (ks.zip ls) := fun Hc s => by
  have sa : SqT K Hc a xs := .inl (rd_same s ea)
  have sb : SqT K Hc b ys := .inl (rd_same s eb)
  have t' := t.mono (TK.same s)
  have u' := u.mono (TK.same s)
  refine ⟨fun i hi => ⟨xs, ys, sa, sb, ?_⟩, fun i d hd => ?_⟩
  · rw [t'.len, u'.len, List.length_map, List.length_map]
    rw [List.length_zip] at hi
    omega
  · obtain ⟨h1, h2⟩ := List.getElem?_zip_eq_some.mp hd
    obtain ⟨v, hv, tv⟩ := t'.get (d := c d.1) (by rw [List.getElem?_map, h1]; rfl)
    obtain ⟨w, hw, tw⟩ := u'.get (d := e d.2) (by rw [List.getElem?_map, h2]; rfl)
    refine ⟨⟨xs, ys, v, w, sa, sb, hv, hw⟩, fun x H' y => ?_⟩
    obtain ⟨T, x1, y1, rfl, hn, rfl, f1, f2⟩ := y
    have q1 := f1 xs sa
    have q2 := f2 ys sb
    rw [hv] at q1
    rw [hw] at q2
    cases q1
    cases q2
    exact ⟨same_new hn _, T, v, w, rfl, .inl upd_same, tv.mono (TK.same (same_new hn _)), tw.mono (TK.same (same_new hn _))⟩
/-- all([p(x, y) for x, y in zip(s, t)]) -/
theorem evb_allZ (G : Grow R) {α β : Type} {c : α → PyData} {e : β → PyData} {i j : Nat} {ta1 ta2 tel : TE} {ks : List α} {ls : List β} {p : α → β → Bool} (hij : i ≠ j) (h1 : EvD R ta1 σ H (.tuple (ks.map c))) (h2 : EvQ R ta2 σ H (ls.map e)) (hz : ks.length ≤ 1000)
    (he : ∀ d ∈ ks.zip ls, ∀ Hc v w, R H Hc → Tp Hc v (c d.1) → Tp Hc w (e d.2) → EvB Same tel (((wipe σ [i, j]).set i (some v)).set j (some w)) Hc (p d.1 d.2)) :
    EvB R (tCB (rAll K) (tCons (tLc (iZipA K (tCons ta1 (tCons ta2 tNil))) (gTup K 2 (gCons (gName i) (gCons (gName j) gNil))) tYes tel [i, j]) tNil)) σ H ((ks.zip ls).all fun d => p d.1 d.2) := fun H1 g Q q =>
  h1 H1 g _ fun v H2 g2 t1 => h2 H2 (G.trans g g2) _ fun b ys H3 g3 eb ts => by
    obtain ⟨a, xs, rfl, ea, tt⟩ := (t1.mono (G.tk g3)).tup_of
    refine ⟨a, b, xs, ys, rfl, .inr ⟨ea.sq, .inl eb, fun D hD => lc_walk (Ent := fun _ v b => v = V.bl b) (f := fun d => some (p d.1 d.2)) (fun _ h => h) (fun h => .inl h) (by rw [List.length_zip]; omega) (walk_zip ea.rd eb tt ts) hD (fun d hd Hc v s tv => ?_) fun Hc acc s eD pa => ?_⟩⟩
    · obtain ⟨T, x, y, rfl, er, tx, ty⟩ := tv
      exact ⟨_, wipe2 hij, fun k h => ⟨T, [x, y], rfl, .inl er, rfl, x, [y], rfl, y, [], rfl, rfl, h⟩, true, fun H3 s3 Q3 q3 => q3 H3 (Same.refl _), (fun h => by cases h), fun _ => ⟨_, rfl, EvB.g (he d hd Hc x y (G.trans (G.trans (G.trans g g2) g3) (G.same s)) tx ty)⟩⟩
    · have e := paired_bl pa
      refine ⟨D, ((ks.zip ls).filterMap fun d => some (p d.1 d.2)), rfl, .inl (.inl (by rw [← e]; exact eD)), ?_⟩
      have e2 : ((ks.zip ls).filterMap fun d => some (p d.1 d.2)).all id = (ks.zip ls).all fun d => p d.1 d.2 := by
        rw [show (fun d : α × β => some (p d.1 d.2)) = some ∘ (fun d : α × β => p d.1 d.2) from rfl, List.filterMap_eq_map, List.all_map]
        rfl
      rw [e2]
      exact q Hc (G.trans (G.trans g2 g3) (G.same s))
end
end Cw
/-! part CwNk -/
set_option Elab.async false
set_option linter.all false
set_option maxRecDepth 100000
set_option maxHeartbeats 1000000
/-! Values as nested keys; their < in the model. -/
namespace Cw
open PySem PySem.Spec PyProof.Rows L2 PySem.SeqAt
def nk : (k : Kd) → Vl k → NestedKey
  | .unit, _ => .tup []
  | .num, x => .num (toI x)
  | .pair a b, x => .tup [.text "pair", nk a x.1, nk b x.2]
  | .either a b, x => (match (x : Sum (Vl a) (Vl b)) with
    | .inl x => .tup [.text "left", nk a x]
    | .inr x => .tup [.text "right", nk b x])
  | .bag a, x => .tup ((show List (Vl a × Int) from x).map fun p => .tup [nk a p.1, .num p.2])
theorem datas_nil : NestedKey.datas [] = [] := by rw [NestedKey.datas]
theorem datas_cons (k : NestedKey) (ks : List NestedKey) : NestedKey.datas (k :: ks) = k.data :: NestedKey.datas ks := by rw [NestedKey.datas]
theorem data_tup (ks : List NestedKey) : NestedKey.data (.tup ks) = .tuple (NestedKey.datas ks) := by rw [NestedKey.data]
theorem data_text (x : Str) : NestedKey.data (.text x) = .str x := by rw [NestedKey.data]
theorem data_num (i : Int) : NestedKey.data (.num i) = .int i := by rw [NestedKey.data]
theorem datas_map {α : Type} (f : α → NestedKey) (g : α → PyData) (h : ∀ x, (f x).data = g x) : ∀ xs : List α, NestedKey.datas (xs.map f) = xs.map g
  | [] => datas_nil
  | x :: xs => by
    show NestedKey.datas (f x :: xs.map f) = g x :: xs.map g
    rw [datas_cons, h, datas_map f g h xs]
theorem nk_data : ∀ (k : Kd) (v : Vl k), (nk k v).data = enc k v
  | .unit, _ => by show NestedKey.data (.tup []) = .tuple []; rw [data_tup, datas_nil]
  | .num, x => data_num _
  | .pair a b, x => by
    show NestedKey.data (.tup [.text "pair", nk a x.1, nk b x.2]) = .tuple [.str "pair", enc a x.1, enc b x.2]
    rw [data_tup, datas_cons, datas_cons, datas_cons, datas_nil, data_text, nk_data a, nk_data b]
  | .either a b, .inl x => by
    show NestedKey.data (.tup [.text "left", nk a x]) = .tuple [.str "left", enc a x]
    rw [data_tup, datas_cons, datas_cons, datas_nil, data_text, nk_data a]
  | .either a b, .inr x => by
    show NestedKey.data (.tup [.text "right", nk b x]) = .tuple [.str "right", enc b x]
    rw [data_tup, datas_cons, datas_cons, datas_nil, data_text, nk_data b]
  | .bag a, x => by
    show NestedKey.data (.tup (List.map (fun p => .tup [nk a p.1, .num p.2]) x)) = .tuple (List.map (encP a) x)
    rw [data_tup]
    congr 1
    exact datas_map _ _ (fun p => by unfold encP; rw [data_tup, datas_cons, datas_cons, datas_nil, data_num, nk_data a]) x
theorem nk_inj {k : Kd} {x y : Vl k} (h : nk k x = nk k y) : x = y := by
  have e : enc k x = enc k y := by rw [← nk_data, ← nk_data, h]
  have := eqv_enc k x y
  rw [e] at this
  have h2 := eqv_enc k y y
  rw [h2, decide_eq_true rfl] at this
  exact of_decide_eq_true this.symm
theorem nk_beq {k : Kd} (x y : Vl k) : NestedKey.beq (nk k x) (nk k y) = decide (x = y) := by
  rw [← NestedKey.decide_eq]
  exact dec_iff ⟨nk_inj, fun h => h ▸ rfl⟩
theorem nd_nil : NestedKey.depthAll [] = 0 := by rw [NestedKey.depthAll]
theorem nd_cons (k : NestedKey) (ks : List NestedKey) : NestedKey.depthAll (k :: ks) = max k.depth (NestedKey.depthAll ks) := by rw [NestedKey.depthAll]
theorem nd_tup (ks : List NestedKey) : NestedKey.depth (.tup ks) = NestedKey.depthAll ks + 1 := by rw [NestedKey.depth]
theorem nd_text (x : Str) : NestedKey.depth (.text x) = 0 := by rw [NestedKey.depth]
theorem nd_num (x : Int) : NestedKey.depth (.num x) = 0 := by rw [NestedKey.depth]
theorem nk_depth : ∀ (k : Kd), k.plain = true → ∀ v : Vl k, (nk k v).depth ≤ k.dep
  | .unit, _, _ => by show NestedKey.depth (.tup []) ≤ 1; rw [nd_tup, nd_nil]; omega
  | .num, _, x => by show NestedKey.depth (.num _) ≤ 1; rw [nd_num]; omega
  | .pair a b, h, x => by
    obtain ⟨h1, h2⟩ := Bool.and_eq_true_iff.mp (show (a.plain && b.plain) = true from h)
    have := nk_depth a h1 x.1
    have := nk_depth b h2 x.2
    show NestedKey.depth (.tup [.text "pair", nk a x.1, nk b x.2]) ≤ max a.dep b.dep + 1
    rw [nd_tup, nd_cons, nd_cons, nd_cons, nd_nil, nd_text]
    omega
  | .either a b, h, .inl x => by
    obtain ⟨h1, h2⟩ := Bool.and_eq_true_iff.mp (show (a.plain && b.plain) = true from h)
    have := nk_depth a h1 x
    show NestedKey.depth (.tup [.text "left", nk a x]) ≤ max a.dep b.dep + 1
    rw [nd_tup, nd_cons, nd_cons, nd_nil, nd_text]
    omega
  | .either a b, h, .inr x => by
    obtain ⟨h1, h2⟩ := Bool.and_eq_true_iff.mp (show (a.plain && b.plain) = true from h)
    have := nk_depth b h2 x
    show NestedKey.depth (.tup [.text "right", nk b x]) ≤ max a.dep b.dep + 1
    rw [nd_tup, nd_cons, nd_cons, nd_nil, nd_text]
    omega
  | .bag _, h, _ => nomatch h
/-! from the abstract heap to the keys -/
section
variable {P : Program} {w : World} {H : Hp} {h : Heap}
mutual
theorem nis_of (ok : HOk P w H h) : ∀ (n : NestedKey) {v : V} {u : Value}, Tp H v n.data → RelV v u → NestedIs h n u
  | .none, v, u, t, r => by rw [NestedKey.data] at t; cases t
  | .num i, v, u, t, r => by
    rw [data_num] at t
    obtain rfl := t.int_of
    obtain ⟨tk, rfl⟩ := r
    exact .int i tk
  | .text x, v, u, t, r => by
    rw [data_text] at t
    obtain rfl := t.str_of
    obtain ⟨tk, rfl⟩ := r
    exact .text x tk
  | .tup ks, v, u, t, r => by
    rw [data_tup] at t
    obtain ⟨a, xs, rfl, ea, tt⟩ := t.tup_of
    obtain rfl : u = .ref a := r
    obtain ⟨_, its, rv, o, ho, hc, n, hd⟩ := (show ObjOk P w H h a (.tup xs) from ea.rd.ok ok)
    exact .tup ho hc hd (by simpa using niss_of ok ks tt rv)
theorem niss_of (ok : HOk P w H h) : ∀ (ns : List NestedKey) {vs : List V} {us : List Value}, TpAll H vs (NestedKey.datas ns) → Vals vs us → NestedAll h ns us
  | [], _, _, t, r => by
    rw [datas_nil] at t
    cases t
    cases r
    exact .nil
  | n :: ns, _, _, t, r => by
    rw [datas_cons] at t
    cases t with
    | cons a t =>
      cases r with
      | cons r1 r2 => exact .cons (nis_of ok n a r1) (niss_of ok ns t r2)
end
theorem nis_enc (ok : HOk P w H h) {k : Kd} {x : Vl k} {v : V} {u : Value} (t : Tp H v (enc k x)) (r : RelV v u) : NestedIs h (nk k x) u := nis_of ok _ (by rw [nk_data]; exact t) r
end
/-! two tuples whose first items are different texts: the texts decide -/
section
open PySem.AutoSeq1 (wpAny_loadPart')
open PySem.MeetsSeq PySem.MeetsSeq2 PySem.MeetsSeq3
theorem lt_first (l b : Addr) (n n2 : Nat) (dd dd2 : Option Addr) (sl sl2 : Array (Option Value)) (x y : Str) (t u : Tok) (v v' : Value) (k : Bool) (hne : (x == y) = false) (hk : decide (x.cps.toList < y.cps.toList) = k) :
    Meets (Builtin.«tuple.__lt__» ⟨[.ref l, .ref b], []⟩) (fun _ R s =>
      s.heap.get? l = some ⟨.type "tuple", dd, .seq #[.str x t, v] n, sl⟩ ∧ s.heap.get? b = some ⟨.type "tuple", dd2, .seq #[.str y u, v'] n2, sl2⟩ ∧ R (.ok (.ret (.bool k))) s) :=
  .of_wp fun prog w A R s h => by
    obtain ⟨hp, g, d, tk, os⟩ := s
    obtain ⟨e1, e2, h⟩ := h
    have ftt := AutoSeq1.sub_tuple_tuple
    wp_walk using wpAny_loadPart' e1, wpAny_loadPart' e2, wpAny_forIn_list _ (fun left c s' => c.1 = none ∧ s' = ⟨hp, g, d, tk, os⟩ ∧ left = [(Value.str x t, Value.str y u), (v, v')]) _
    case turn =>
      rintro ⟨p, q⟩ left c s' ⟨hc, rfl, hz⟩
      injection hz with z1 z2
      injection z1 with z3 z4
      subst z3 z4 z2
      have q1 := EqAt.str_str (A := A.in1) (s := ⟨hp, g, d, tk, os⟩) x t y u
      rw [hne] at q1
      refine wpAny_bind (q1 prog w _ _ ?_)
      have q2 := DT.rcLt_str A.in1 ⟨hp, g, d, tk, os⟩ x t y u prog w
      wp_walk using q2
      exact ⟨_, rfl, by rw [hk]; exact h⟩
    case fin =>
      rintro ⟨c1, c2⟩ s' ⟨hc, rfl, hz⟩
      cases hz
    case h => exact ⟨rfl, rfl, rfl⟩
end
theorem rcLt_first {A : Around} {s : Shared} {l b : Addr} {x y : Str} {t u : Tok} {v v' : Value} {k : Bool} (hl : s.heap.IsTuple l #[.str x t, v]) (hb : s.heap.IsTuple b #[.str y u, v']) (hne : (x == y) = false) (hk : decide (x.cps.toList < y.cps.toList) = k) (hu : A.units < cLine) : RcLt A s (.ref l) (.ref b) k := fun prog w E Q h => by
  obtain ⟨⟨c1, d1, dat1, s1⟩, o1, k1, n1, e1⟩ := id hl
  obtain ⟨⟨c2, d2, dat2, s2⟩, o2, k2, n2, e2⟩ := id hb
  simp only at k1 e1 k2 e2
  subst k1 e1 k2 e2
  exact richCompare_meets_room (op := .Lt) ⟨_, o1, rfl⟩ ⟨_, o2, rfl⟩ PySem.F.slot_tuple_lt PySem.F.entry_tuple_lt (PySem.F.args_tuple_lt_2 _ _) (lt_first l b n1 n2 d1 d2 s1 s2 x y t u v v' k hne hk) ⟨o1, o2, show Value.bool k ≠ Value.notImplemented ∧ Q (.bool k) s from ⟨(fun z => nomatch z), h⟩⟩ hu
theorem bq_lr : (("left" : Str) == ("right" : Str)) = false := by decide +kernel
theorem bq_rl : (("right" : Str) == ("left" : Str)) = false := by decide +kernel
/-! < of plain values -/
section
variable {A : Around} {s : Shared}
theorem rd0 {a : Value} {as : List Addr} (h : Reads s.heap a (.tuple []) as) : ∃ l, a = .ref l ∧ s.heap.IsTuple l #[] := by
  cases h with
  | @tuple l o vs n _ as h1 h2 h3 h4 =>
    obtain ⟨q⟩ := vs
    cases h4
    exact ⟨l, rfl, o, h1, h2, n, h3⟩
theorem rd2 {a : Value} {as : List Addr} {x y : PyData} (h : Reads s.heap a (.tuple [x, y]) as) : ∃ l u v as1 as2, a = .ref l ∧ s.heap.IsTuple l #[u, v] ∧ Reads s.heap u x as1 ∧ Reads s.heap v y as2 := by
  cases h with
  | @tuple l o vs n _ as h1 h2 h3 h4 =>
    obtain ⟨q⟩ := vs
    cases h4 with
    | cons r1 t =>
      cases t with
      | cons r2 t =>
        cases t
        exact ⟨l, _, _, _, _, rfl, ⟨o, h1, h2, n, h3⟩, r1, r2⟩
theorem rd3 {a : Value} {as : List Addr} {x y z : PyData} (h : Reads s.heap a (.tuple [x, y, z]) as) : ∃ l u v t as1 as2 as3, a = .ref l ∧ s.heap.IsTuple l #[u, v, t] ∧ Reads s.heap u x as1 ∧ Reads s.heap v y as2 ∧ Reads s.heap t z as3 := by
  cases h with
  | @tuple l o vs n _ as h1 h2 h3 h4 =>
    obtain ⟨q⟩ := vs
    cases h4 with
    | cons r1 t =>
      cases t with
      | cons r2 t =>
        cases t with
        | cons r3 t =>
          cases t
          exact ⟨l, _, _, _, _, _, _, rfl, ⟨o, h1, h2, n, h3⟩, r1, r2, r3⟩
theorem lt_lr : decide (("left" : Str).cps.toList < ("right" : Str).cps.toList) = true := by decide +kernel
theorem lt_rl : decide (("right" : Str).cps.toList < ("left" : Str).cps.toList) = false := by decide +kernel
theorem eq_lr : PyData.eqv (.str "left") (.str "right") = false := by rw [eqv_str]; decide +kernel
theorem eq_rl : PyData.eqv (.str "right") (.str "left") = false := by rw [eqv_str]; decide +kernel
theorem eq_tx (x : Str) : PyData.eqv (.str x) (.str x) = true := by rw [eqv_str]; exact beq_self_eq_true x
theorem eqAt_tx {x y : Str} {a b : Value} {as bs : List Addr} (ra : Reads s.heap a (.str x) as) (rb : Reads s.heap b (.str y) bs) (ox : PyData.strOk x = true) (oy : PyData.strOk y = true) (hu : A.units < cLine) : EqAt A s a b (PyData.eqv (.str x) (.str y)) :=
  eqAt_reads _ _ A s a b as bs ra rb (by rw [lay_str]; exact ox) (by rw [lay_str]; exact oy) (by rw [dp_str, dp_str]; omega)
theorem eqAt_v {k : Kd} {x y : Vl k} {a b : Value} {as bs : List Addr} (ra : Reads s.heap a (enc k x) as) (rb : Reads s.heap b (enc k y) bs) (hu : A.units + 2 * k.dep < cLine) : EqAt A s a b (decide (x = y)) := by
  have h := eqAt_reads _ _ A s a b as bs ra rb (lay_enc k x) (lay_enc k y) (by have := dp_enc k x; omega)
  rw [eqv_enc] at h
  exact h
theorem rcLt_v : ∀ (k : Kd) (x y : Vl k) (A : Around) (a b : Value) (as bs : List Addr), k.plain = true → Reads s.heap a (enc k x) as → Reads s.heap b (enc k y) bs → A.units + 2 * k.dep < cLine → RcLt A s a b (lt k x y)
  | .unit, x, y, A, a, b, as, bs, _, ra, rb, hu => by
    obtain ⟨l, rfl, hl⟩ := rd0 (show Reads s.heap a (.tuple []) as from ra)
    obtain ⟨l', rfl, hl'⟩ := rd0 (show Reads s.heap b (.tuple []) bs from rb)
    exact RcLt.tuples (e := fun _ => true) (r := fun _ => false) hl hl' (by omega) (fun j j1 _ => absurd j1 (Nat.not_lt_zero _)) fun j j1 _ _ => absurd j1 (Nat.not_lt_zero _)
  | .num, x, y, A, a, b, as, bs, _, ra, rb, hu => by
    have ra' : Reads s.heap a (.int (toI x)) as := ra
    have rb' : Reads s.heap b (.int (toI y)) bs := rb
    cases ra'
    cases rb'
    intro prog w E Q hq
    exact P.lt_int hq
  | .pair ka kb, x, y, A, a, b, as, bs, hp, ra, rb, hu => by
    obtain ⟨h1, h2⟩ := Bool.and_eq_true_iff.mp (show (ka.plain && kb.plain) = true from hp)
    obtain ⟨l, u0, u1, u2, a0, a1, a2, rfl, hl, r0, r1, r2⟩ := rd3 (show Reads s.heap a (.tuple [.str "pair", enc ka x.1, enc kb x.2]) as from ra)
    obtain ⟨l', v0, v1, v2, b0, b1, b2, rfl, hl', q0, q1, q2⟩ := rd3 (show Reads s.heap b (.tuple [.str "pair", enc ka y.1, enc kb y.2]) bs from rb)
    have hu' : A.units + 2 * (max ka.dep kb.dep + 1) < cLine := hu
    have hi : A.in1.units ≤ A.units + 1 := by rw [Around.in1_units]; exact Nat.le_refl _
    have h := RcLt.tuples (A := A) (s := s) (e := fun j => if j = 0 then true else if j = 1 then decide (x.1 = y.1) else decide (x.2 = y.2)) (r := fun j => if j = 0 then false else if j = 1 then lt ka x.1 y.1 else lt kb x.2 y.2) hl hl' (by omega) (fun j j1 j2 => ?_) fun j j1 j2 hj => ?_
    · have e : firstLt (fun j => if j = 0 then true else if j = 1 then decide (x.1 = y.1) else decide (x.2 = y.2)) (fun j => if j = 0 then false else if j = 1 then lt ka x.1 y.1 else lt kb x.2 y.2) (decide (3 < 3)) [0, 1, 2] = lt (.pair ka kb) x y := by
        show _ = (lt ka x.1 y.1 || (decide (x.1 = y.1) && lt kb x.2 y.2))
        rw [firstLt_yes rfl]
        by_cases e1 : x.1 = y.1
        · rw [firstLt_yes (by simpa using e1), ← e1, lt_irr ka, Bool.false_or, decide_eq_true rfl, Bool.true_and]
          by_cases e2 : x.2 = y.2
          · rw [firstLt_yes (by simpa using e2), ← e2, lt_irr kb]
            rfl
          · rw [firstLt_no (by simpa using e2)]
            rfl
        · rw [firstLt_no (by simpa using e1), decide_eq_false e1, Bool.false_and, Bool.or_false]
          rfl
      have h' : RcLt A s (.ref l) (.ref l') (firstLt (fun j => if j = 0 then true else if j = 1 then decide (x.1 = y.1) else decide (x.2 = y.2)) (fun j => if j = 0 then false else if j = 1 then lt ka x.1 y.1 else lt kb x.2 y.2) (decide (3 < 3)) [0, 1, 2]) := h
      rw [e] at h'
      exact h'
    · match j, j1 with
      | 0, _ =>
        have := eqAt_tx (A := A.in1) (s := s) r0 q0 ok_pair ok_pair (by omega)
        rw [eq_tx] at this
        exact this
      | 1, _ => exact eqAt_v (A := A.in1) r1 q1 (by omega)
      | 2, _ => exact eqAt_v (A := A.in1) r2 q2 (by omega)
    · match j, j1, hj with
      | 0, _, hj => exact absurd hj (by simp)
      | 1, _, _ => exact rcLt_v ka x.1 y.1 A.in1 _ _ _ _ h1 r1 q1 (by omega)
      | 2, _, _ => exact rcLt_v kb x.2 y.2 A.in1 _ _ _ _ h2 r2 q2 (by omega)
  | .either ka kb, .inl x, .inl y, A, a, b, as, bs, hp, ra, rb, hu => by
    obtain ⟨h1, h2⟩ := Bool.and_eq_true_iff.mp (show (ka.plain && kb.plain) = true from hp)
    obtain ⟨l, u0, u1, a0, a1, rfl, hl, r0, r1⟩ := rd2 (show Reads s.heap a (.tuple [.str "left", enc ka x]) as from ra)
    obtain ⟨l', v0, v1, b0, b1, rfl, hl', q0, q1⟩ := rd2 (show Reads s.heap b (.tuple [.str "left", enc ka y]) bs from rb)
    have hu' : A.units + 2 * (max ka.dep kb.dep + 1) < cLine := hu
    have hi : A.in1.units ≤ A.units + 1 := by rw [Around.in1_units]; exact Nat.le_refl _
    have h := RcLt.tuples (A := A) (s := s) (e := fun j => if j = 0 then true else decide (x = y)) (r := fun j => if j = 0 then false else lt ka x y) hl hl' (by omega) (fun j j1 j2 => ?_) fun j j1 j2 hj => ?_
    · have e : firstLt (fun j => if j = 0 then true else decide (x = y)) (fun j => if j = 0 then false else lt ka x y) (decide (2 < 2)) [0, 1] = lt ka x y := by
        rw [firstLt_yes rfl]
        by_cases e1 : x = y
        · rw [firstLt_yes (by simpa using e1), ← e1, lt_irr ka]
          rfl
        · rw [firstLt_no (by simpa using e1)]
          rfl
      have h' : RcLt A s (.ref l) (.ref l') (firstLt (fun j => if j = 0 then true else decide (x = y)) (fun j => if j = 0 then false else lt ka x y) (decide (2 < 2)) [0, 1]) := h
      rw [e] at h'
      exact h'
    · match j, j1 with
      | 0, _ =>
        have := eqAt_tx (A := A.in1) (s := s) r0 q0 ok_left ok_left (by omega)
        rw [eq_tx] at this
        exact this
      | 1, _ => exact eqAt_v (A := A.in1) r1 q1 (by omega)
    · match j, j1, hj with
      | 0, _, hj => exact absurd hj (by simp)
      | 1, _, _ => exact rcLt_v ka x y A.in1 _ _ _ _ h1 r1 q1 (by omega)
  | .either ka kb, .inr x, .inr y, A, a, b, as, bs, hp, ra, rb, hu => by
    obtain ⟨h1, h2⟩ := Bool.and_eq_true_iff.mp (show (ka.plain && kb.plain) = true from hp)
    obtain ⟨l, u0, u1, a0, a1, rfl, hl, r0, r1⟩ := rd2 (show Reads s.heap a (.tuple [.str "right", enc kb x]) as from ra)
    obtain ⟨l', v0, v1, b0, b1, rfl, hl', q0, q1⟩ := rd2 (show Reads s.heap b (.tuple [.str "right", enc kb y]) bs from rb)
    have hu' : A.units + 2 * (max ka.dep kb.dep + 1) < cLine := hu
    have hi : A.in1.units ≤ A.units + 1 := by rw [Around.in1_units]; exact Nat.le_refl _
    have h := RcLt.tuples (A := A) (s := s) (e := fun j => if j = 0 then true else decide (x = y)) (r := fun j => if j = 0 then false else lt kb x y) hl hl' (by omega) (fun j j1 j2 => ?_) fun j j1 j2 hj => ?_
    · have e : firstLt (fun j => if j = 0 then true else decide (x = y)) (fun j => if j = 0 then false else lt kb x y) (decide (2 < 2)) [0, 1] = lt kb x y := by
        rw [firstLt_yes rfl]
        by_cases e1 : x = y
        · rw [firstLt_yes (by simpa using e1), ← e1, lt_irr kb]
          rfl
        · rw [firstLt_no (by simpa using e1)]
          rfl
      have h' : RcLt A s (.ref l) (.ref l') (firstLt (fun j => if j = 0 then true else decide (x = y)) (fun j => if j = 0 then false else lt kb x y) (decide (2 < 2)) [0, 1]) := h
      rw [e] at h'
      exact h'
    · match j, j1 with
      | 0, _ =>
        have := eqAt_tx (A := A.in1) (s := s) r0 q0 ok_right ok_right (by omega)
        rw [eq_tx] at this
        exact this
      | 1, _ => exact eqAt_v (A := A.in1) r1 q1 (by omega)
    · match j, j1, hj with
      | 0, _, hj => exact absurd hj (by simp)
      | 1, _, _ => exact rcLt_v kb x y A.in1 _ _ _ _ h2 r1 q1 (by omega)
  | .either ka kb, .inl x, .inr y, A, a, b, as, bs, hp, ra, rb, hu => by
    obtain ⟨l, u0, u1, a0, a1, rfl, hl, r0, r1⟩ := rd2 (show Reads s.heap a (.tuple [.str "left", enc ka x]) as from ra)
    obtain ⟨l', v0, v1, b0, b1, rfl, hl', q0, q1⟩ := rd2 (show Reads s.heap b (.tuple [.str "right", enc kb y]) bs from rb)
    cases r0
    cases q0
    exact rcLt_first hl hl' bq_lr lt_lr (by omega)
  | .either ka kb, .inr x, .inl y, A, a, b, as, bs, hp, ra, rb, hu => by
    obtain ⟨l, u0, u1, a0, a1, rfl, hl, r0, r1⟩ := rd2 (show Reads s.heap a (.tuple [.str "right", enc kb x]) as from ra)
    obtain ⟨l', v0, v1, b0, b1, rfl, hl', q0, q1⟩ := rd2 (show Reads s.heap b (.tuple [.str "left", enc ka y]) bs from rb)
    cases r0
    cases q0
    exact rcLt_first hl hl' bq_rl lt_rl (by omega)
  | .bag _, _, _, _, _, _, _, _, hp, _, _, _ => nomatch hp
end
end Cw
/-! part CwDct -/
set_option Elab.async false
set_option linter.all false
set_option maxRecDepth 100000
set_option maxHeartbeats 1000000
/-! Dicts whose keys are plain values of one kind: whole numbers, or nested tuples. -/
namespace Cw
open PySem PySem.Spec PyProof.Rows L2 PySem.SeqAt
/-! ### lists of keys and times -/
section
variable {A : Type} [DecidableEq A]
def look (xs : List (A × Int)) (k : A) : Option Int := (xs.find? fun p => decide (p.1 = k)).map (·.2)
def setB (xs : List (A × Int)) (k : A) (n : Int) : List (A × Int) := if xs.any (fun p => decide (p.1 = k)) then xs.map (fun p => if p.1 = k then (p.1, n) else p) else xs ++ [(k, n)]
theorem look_cons (p : A × Int) (xs : List (A × Int)) (k : A) : look (p :: xs) k = if p.1 = k then some p.2 else look xs k := by
  unfold look
  rw [List.find?_cons]
  by_cases h : p.1 = k
  · rw [if_pos h, decide_eq_true h]; rfl
  · rw [if_neg h, decide_eq_false h]
theorem look_none {k : A} : ∀ {xs : List (A × Int)}, look xs k = none ↔ k ∉ xs.map (·.1)
  | [] => ⟨fun _ h => (nomatch h), fun _ => rfl⟩
  | p :: xs => by
    rw [look_cons, List.map_cons, List.mem_cons]
    by_cases h : p.1 = k
    · rw [if_pos h]
      exact ⟨fun z => (nomatch z), fun z => absurd (.inl h.symm) z⟩
    · rw [if_neg h, look_none (xs := xs)]
      exact ⟨fun z q => q.elim (fun e => h e.symm) z, fun z q => z (.inr q)⟩
theorem cnt_look {k : A} : ∀ {xs : List (A × Int)}, (xs.map (·.1)).Nodup → (look xs k).getD 0 = cnt xs k
  | [], _ => rfl
  | p :: xs, h => by
    rw [List.map_cons, List.nodup_cons] at h
    rw [look_cons, cnt_cons]
    by_cases e : p.1 = k
    · rw [if_pos e, if_pos e]
      have : cnt xs k = 0 := cnt_out fun q hq z => h.1 (by rw [e, ← z]; exact List.mem_map.mpr ⟨q, hq, rfl⟩)
      show p.2 = p.2 + cnt xs k
      omega
    · rw [if_neg e, if_neg e, cnt_look h.2]
      omega
theorem any_key {k : A} {xs : List (A × Int)} : xs.any (fun p => decide (p.1 = k)) = true ↔ k ∈ xs.map (·.1) := by
  rw [List.any_eq_true, List.mem_map]
  exact ⟨fun ⟨p, h, e⟩ => ⟨p, h, of_decide_eq_true e⟩, fun ⟨p, h, e⟩ => ⟨p, h, decide_eq_true e⟩⟩
theorem keys_setB {xs : List (A × Int)} {k : A} {n : Int} : (setB xs k n).map (·.1) = if k ∈ xs.map (·.1) then xs.map (·.1) else xs.map (·.1) ++ [k] := by
  unfold setB
  by_cases h : k ∈ xs.map (·.1)
  · rw [if_pos (any_key.mpr h), if_pos h, List.map_map]
    exact List.map_congr_left fun p _ => by
      show (if p.1 = k then (p.1, n) else p).1 = p.1
      split <;> rfl
  · rw [if_neg (fun z => h (any_key.mp z)), if_neg h, List.map_append]
    rfl
theorem nodup_setB {xs : List (A × Int)} {k : A} {n : Int} (h : (xs.map (·.1)).Nodup) : ((setB xs k n).map (·.1)).Nodup := by
  rw [keys_setB]
  split
  · exact h
  · rename_i hk
    exact List.nodup_append.mpr ⟨h, List.nodup_cons.mpr ⟨fun z => (nomatch z), List.nodup_nil⟩, fun a ha b hb => by
      rw [List.mem_singleton.mp hb]
      exact fun e => hk (e ▸ ha)⟩
theorem len_setB {xs : List (A × Int)} {k : A} {n : Int} : (setB xs k n).length ≤ xs.length + 1 := by
  unfold setB
  split
  · rw [List.length_map]; omega
  · rw [List.length_append]; exact Nat.le_refl _
theorem look_setB {k z : A} {n : Int} : ∀ {xs : List (A × Int)}, look (setB xs k n) z = if k = z then some n else look xs z := by
  intro xs
  unfold setB
  split
  · rename_i h
    induction xs with
    | nil => exact absurd h (by simp)
    | cons p xs ih =>
      rw [List.map_cons, look_cons, look_cons]
      by_cases e : p.1 = k
      · rw [if_pos e]
        by_cases q : k = z
        · rw [if_pos (e.trans q), if_pos q]
        · rw [if_neg (fun w => q (e.symm.trans w)), if_neg q, if_neg (fun w => q (e.symm.trans w))]
          by_cases h' : xs.any (fun p => decide (p.1 = k)) = true
          · rw [ih h', if_neg q]
          · congr 1
            exact (List.map_congr_left (g := id) fun r hr => by
              rw [if_neg (fun w => h' (any_key.mpr (List.mem_map.mpr ⟨r, hr, w⟩)))]; rfl).trans (List.map_id _)
      · rw [if_neg e]
        have h' : xs.any (fun p => decide (p.1 = k)) = true := by
          rw [List.any_cons, decide_eq_false e, Bool.false_or] at h
          exact h
        by_cases q : p.1 = z
        · rw [if_pos q, if_pos q, if_neg (fun w => e (q.trans w.symm))]
        · rw [if_neg q, if_neg q, ih h']
  · rename_i h
    induction xs with
    | nil =>
      show look [(k, n)] z = _
      rw [look_cons]
    | cons p xs ih =>
      have e : ¬ p.1 = k := fun e => h (by rw [List.any_cons, decide_eq_true e]; rfl)
      have h' : ¬ xs.any (fun p => decide (p.1 = k)) = true := fun w => h (by rw [List.any_cons, w, Bool.or_true])
      rw [List.cons_append, look_cons, look_cons]
      by_cases q : p.1 = z
      · rw [if_pos q, if_pos q, if_neg (fun w => e (q.trans w.symm))]
      · rw [if_neg q, if_neg q, ih h']
theorem cnt_setB {xs : List (A × Int)} {k : A} {n : Int} (h : (xs.map (·.1)).Nodup) (z : A) : cnt (setB xs k n) z = if k = z then n else cnt xs z := by
  rw [← cnt_look (nodup_setB h), look_setB]
  split
  · rfl
  · exact cnt_look h
end
/-! ### dicts of nested keys -/
abbrev NE := NestedKey × Addr × Int
def NRel : NE → NestedKey × Addr × Value → Prop := fun p q => p.1 = q.1 ∧ p.2.1 = q.2.1 ∧ ∃ t, q.2.2 = .int p.2.2 t
def Raw (P : Program) (w : World) (d : Addr) (ys : List NE) (h : Heap) : Prop := (d == sysModules) = false ∧ ys.length ≤ 1000 ∧ ∃ ws : List (NestedKey × Addr × Value), Paired NRel ys ws ∧
  ∃ o es ep, h.get? d = some o ∧ o.ExactDict ∧ o.data = .dict es ep ∧ es.toList = ws.map (entryOfKey (nestedKind P w)) ∧ (ws.map (·.1)).Nodup
def ndO (P : Program) (w : World) (d : Addr) (ys : List NE) : HO := .ext (Raw P w d ys)
theorem ndO_ok {P : Program} {w : World} {H : Hp} {h : Heap} {d : Addr} {ys : List NE} (r : Raw P w d ys h) : ObjOk P w H h d (ndO P w d ys) := by
  obtain ⟨lo, z, ws, p, o, es, ep, ho, r⟩ := id r
  exact ⟨‹_›, ⟨o, ho⟩, fun h1 h2 ⟨lo, z, ws, p, o, es, ep, ho, r⟩ k => ⟨lo, z, ws, p, o, es, ep, k o ho, r⟩⟩
def lookY (ys : List NE) (k : NestedKey) : Option Int := (ys.find? fun y => decide (y.1 = k)).map (·.2.2)
def setY (ys : List NE) (k : NestedKey) (a : Addr) (n : Int) : List NE := if ys.any (fun y => decide (y.1 = k)) then ys.map (fun y => if y.1 = k then (y.1, y.2.1, n) else y) else ys ++ [(k, a, n)]
theorem nrel_any {k : NestedKey} : ∀ {ys : List NE} {ws : List (NestedKey × Addr × Value)}, Paired NRel ys ws → (atKey ws k).isSome = ys.any fun y => decide (y.1 = k)
  | _, _, .nil => rfl
  | y :: ys, q :: ws, .cons r t => by
    have ih := nrel_any (k := k) t
    unfold atKey at ih ⊢
    rw [List.find?_cons, List.any_cons, r.1]
    by_cases e : q.1 = k
    · rw [decide_eq_true e]; rfl
    · rw [decide_eq_false e, Bool.false_or]
      exact ih
theorem nrel_at {k : NestedKey} : ∀ {ys : List NE} {ws : List (NestedKey × Addr × Value)}, Paired NRel ys ws → (atKey ws k = none ∧ lookY ys k = none) ∨ ∃ b n t, atKey ws k = some (b, .int n t) ∧ lookY ys k = some n
  | _, _, .nil => .inl ⟨rfl, rfl⟩
  | y :: ys, q :: ws, .cons r t => by
    have ih := nrel_at (k := k) t
    unfold atKey lookY at ih ⊢
    rw [List.find?_cons, List.find?_cons, r.1]
    by_cases e : q.1 = k
    · rw [decide_eq_true e]
      obtain ⟨_, _, t, h⟩ := r
      exact .inr ⟨q.2.1, y.2.2, t, by show some q.2 = _; rw [← h], rfl⟩
    · rw [decide_eq_false e]
      exact ih
theorem nrel_map {k : NestedKey} {n : Int} {t : Tok} : ∀ {ys : List NE} {ws : List (NestedKey × Addr × Value)}, Paired NRel ys ws → Paired NRel (ys.map fun y => if y.1 = k then (y.1, y.2.1, n) else y) (ws.map (putAt k (.int n t)))
  | _, _, .nil => .nil
  | y :: ys, q :: ws, .cons r s => by
    refine .cons ?_ (nrel_map s)
    show NRel (if y.1 = k then (y.1, y.2.1, n) else y) (putAt k (.int n t) q)
    unfold putAt
    rw [← r.1]
    split
    · exact ⟨rfl, r.2.1, t, rfl⟩
    · exact r
theorem nrel_set {k : NestedKey} {a : Addr} {n : Int} {t : Tok} {ys : List NE} {ws : List (NestedKey × Addr × Value)} (p : Paired NRel ys ws) : Paired NRel (setY ys k a n) (storedH ws k a (.int n t)) := by
  unfold setY storedH
  rw [nrel_any p]
  split
  · exact nrel_map p
  · exact Paired.snoc p ⟨rfl, rfl, t, rfl⟩
theorem nrel_len {ys : List NE} {ws : List (NestedKey × Addr × Value)} (p : Paired NRel ys ws) : ys.length = ws.length := Paired.length p
theorem setY_len {ys : List NE} {k : NestedKey} {a : Addr} {n : Int} : (setY ys k a n).length ≤ ys.length + 1 := by
  unfold setY
  split
  · rw [List.length_map]; omega
  · rw [List.length_append]; exact Nat.le_refl _
def pj (y : NE) : NestedKey × Int := (y.1, y.2.2)
def pk (a : Kd) (p : Vl a × Int) : NestedKey × Int := (nk a p.1, p.2)
theorem pj_any {a : Kd} {k : Vl a} : ∀ {ys : List NE} {xs : List (Vl a × Int)}, ys.map pj = xs.map (pk a) → (ys.any fun y => decide (y.1 = nk a k)) = xs.any fun p => decide (p.1 = k)
  | [], [], _ => rfl
  | y :: ys, p :: xs, h => by
    obtain ⟨h1, h2⟩ := List.cons.inj (show pj y :: ys.map pj = pk a p :: xs.map (pk a) from h)
    have e : y.1 = nk a p.1 := congrArg Prod.fst h1
    rw [List.any_cons, List.any_cons, pj_any h2, e, show decide (nk a p.1 = nk a k) = decide (p.1 = k) from dec_iff ⟨nk_inj, fun z => z ▸ rfl⟩]
  | [], _ :: _, h => nomatch h
  | _ :: _, [], h => nomatch h
theorem pj_look {a : Kd} {k : Vl a} : ∀ {ys : List NE} {xs : List (Vl a × Int)}, ys.map pj = xs.map (pk a) → lookY ys (nk a k) = look xs k
  | [], [], _ => rfl
  | y :: ys, p :: xs, h => by
    obtain ⟨h1, h2⟩ := List.cons.inj (show pj y :: ys.map pj = pk a p :: xs.map (pk a) from h)
    have e : y.1 = nk a p.1 := congrArg Prod.fst h1
    have e2 : y.2.2 = p.2 := congrArg Prod.snd h1
    have ih := pj_look (k := k) h2
    rw [look_cons]
    unfold lookY at ih ⊢
    rw [List.find?_cons, e, show decide (nk a p.1 = nk a k) = decide (p.1 = k) from dec_iff ⟨nk_inj, fun z => z ▸ rfl⟩]
    by_cases q : p.1 = k
    · rw [decide_eq_true q, if_pos q]
      show some y.2.2 = _
      rw [e2]
    · rw [decide_eq_false q, if_neg q]
      exact ih
  | [], _ :: _, h => nomatch h
  | _ :: _, [], h => nomatch h
theorem pj_map {a : Kd} {k : Vl a} {n : Int} : ∀ {ys : List NE} {xs : List (Vl a × Int)}, ys.map pj = xs.map (pk a) → (ys.map fun y => if y.1 = nk a k then (y.1, y.2.1, n) else y).map pj = (xs.map fun p => if p.1 = k then (p.1, n) else p).map (pk a)
  | [], [], _ => rfl
  | y :: ys, p :: xs, h => by
    obtain ⟨h1, h2⟩ := List.cons.inj (show pj y :: ys.map pj = pk a p :: xs.map (pk a) from h)
    have e : y.1 = nk a p.1 := congrArg Prod.fst h1
    rw [List.map_cons, List.map_cons, List.map_cons, List.map_cons, pj_map h2]
    congr 1
    by_cases q : p.1 = k
    · rw [if_pos q, if_pos (by rw [e, q])]
      show (y.1, n) = (nk a p.1, n)
      rw [e]
    · rw [if_neg q, if_neg (fun z => q (nk_inj (e.symm.trans z)))]
      exact h1
  | [], _ :: _, h => nomatch h
  | _ :: _, [], h => nomatch h
theorem pj_set {a : Kd} {k : Vl a} {b : Addr} {n : Int} {ys : List NE} {xs : List (Vl a × Int)} (h : ys.map pj = xs.map (pk a)) : (setY ys (nk a k) b n).map pj = (setB xs k n).map (pk a) := by
  unfold setY setB
  rw [pj_any h]
  split
  · exact pj_map h
  · rw [List.map_append, List.map_append, h]
    rfl
/-! ### the two at once -/
def kf (p : Vl .num × Int) : L2.Key × V := (Sum.inl (toI p.1), V.int p.2)
def BDt (P : Program) (w : World) (H : Hp) (d : Addr) (a : Kd) (xs : List (Vl a × Int)) : Prop := ∃ ys : List NE, H d = some (ndO P w d ys) ∧ ys.map pj = xs.map (pk a) ∧ ∀ y ∈ ys, Tp H (.ref y.2.1) y.1.data
def BDk (P : Program) (w : World) (H : Hp) (d : Addr) : (a : Kd) → List (Vl a × Int) → Prop
  | .num, xs => H d = some (.dK (xs.map kf))
  | .unit, xs => BDt P w H d .unit xs
  | .pair a b, xs => BDt P w H d (.pair a b) xs
  | .either a b, xs => BDt P w H d (.either a b) xs
  | .bag a, xs => BDt P w H d (.bag a) xs
structure BD (P : Program) (w : World) (H : Hp) (d : Addr) (a : Kd) (xs : List (Vl a × Int)) : Prop where
  k : BDk P w H d a xs
  nd : (xs.map (·.1)).Nodup
  len : xs.length ≤ 1000
  pl : a.plain = true
  dp : a.dep ≤ 8
theorem bdk_cases {P : Program} {w : World} {H : Hp} {d : Addr} {C : (a : Kd) → List (Vl a × Int) → Prop} (h1 : ∀ xs : List (Vl .num × Int), H d = some (.dK (xs.map kf)) → C .num xs) (h2 : ∀ (a : Kd) (xs : List (Vl a × Int)), BDt P w H d a xs → C a xs) :
    ∀ (a : Kd) (xs : List (Vl a × Int)), BDk P w H d a xs → C a xs
  | .num, xs, h => h1 xs h
  | .unit, xs, h => h2 _ xs h
  | .pair a b, xs, h => h2 _ xs h
  | .either a b, xs, h => h2 _ xs h
  | .bag a, xs, h => h2 _ xs h
theorem look_kf {k : Vl .num} : ∀ {xs : List (Vl .num × Int)}, valV (xs.map kf) (Sum.inl (toI k)) = (look xs k).map V.int
  | [] => rfl
  | p :: xs => by
    rw [look_cons, List.map_cons]
    by_cases e : p.1 = k
    · rw [if_pos e, valV_pos (show (kf p).1 = Sum.inl (toI k) by rw [← e]; rfl)]
      rfl
    · rw [if_neg e, valV_neg (fun z => e (Sum.inl.inj (show (Sum.inl (toI p.1) : L2.Key) = Sum.inl (toI k) from z))), look_kf]
theorem set_kf {k : Vl .num} {n : Int} {xs : List (Vl .num × Int)} : putK (xs.map kf) (Sum.inl (toI k)) (V.int n) = (setB xs k n).map kf := by
  have e : ∀ p : Vl .num × Int, decide ((kf p).1 = (Sum.inl (toI k) : L2.Key)) = decide (p.1 = k) := fun p => dec_iff ⟨fun z => Sum.inl.inj (show (Sum.inl (toI p.1) : L2.Key) = Sum.inl (toI k) from z), fun z => by rw [← z]; rfl⟩
  unfold putK setB
  rw [List.any_map, show ((fun kv : L2.Key × V => decide (kv.1 = Sum.inl (toI k))) ∘ kf) = fun p => decide (p.1 = k) from funext e]
  split
  · rw [List.map_map, List.map_map]
    refine List.map_congr_left fun p _ => ?_
    have ep := e p
    show (if (kf p).1 = Sum.inl (toI k) then ((kf p).1, V.int n) else kf p) = kf (if p.1 = k then (p.1, n) else p)
    by_cases q : p.1 = k
    · rw [if_pos q, if_pos (of_decide_eq_true (ep.trans (decide_eq_true q)))]
      rfl
    · rw [if_neg q, if_neg (fun z => q (of_decide_eq_true (ep.symm.trans (decide_eq_true z))))]
  · rw [List.map_append]
    rfl
section
variable {X : Cx} {pins : List (Addr × Obj)} {σ : L2.St} {H : Hp} {s : Shared} {d : Addr} {a : Kd} {xs : List (Vl a × Int)} {k : Vl a} {y : V} {u : Value} {A : Around} {E : Value → Shared → Prop}
theorem BD.there (B : BD X.prog X.w H d a xs) (I : Inv X pins σ H s) : (d == sysModules) = false ∧ ∃ o, s.heap.get? d = some o ∧ o.ExactDict := by
  refine bdk_cases (C := fun a xs => (d == sysModules) = false ∧ ∃ o, s.heap.get? d = some o ∧ o.ExactDict) (fun xs h => ?_) (fun a xs h => ?_) a xs B.k
  · obtain ⟨_, lo, vs, _, o, es, ep, ho, hx, _⟩ := dk_of I.hok h
    exact ⟨lo, o, ho, hx⟩
  · obtain ⟨ys, e, _⟩ := h
    obtain ⟨⟨lo, _, ws, _, o, es, ep, ho, hx, _⟩, _⟩ := (show ObjOk X.prog X.w H s.heap d (ndO X.prog X.w d ys) from I.hok d _ e)
    exact ⟨lo, o, ho, hx⟩
theorem BD.type (B : BD X.prog X.w H d a xs) (I : Inv X pins σ H s) : s.TypeIs (.ref d) "dict" := let ⟨_, o, ho, hx⟩ := B.there I; ⟨o, ho, hx.1⟩
theorem BD.noDict (B : BD X.prog X.w H d a xs) (I : Inv X pins σ H s) : ∀ b, Value.ref d = .ref b → ∃ ob, s.heap.get? b = some ob ∧ ob.dict = none := fun b q => by
  cases q
  obtain ⟨_, o, ho, hx⟩ := B.there I
  exact ⟨o, ho, hx.2.1⟩
theorem nrel_is (I : Inv X pins σ H s) : ∀ {ys : List NE} {ws : List (NestedKey × Addr × Value)}, Paired NRel ys ws → (∀ y ∈ ys, Tp H (.ref y.2.1) y.1.data) → (∀ y ∈ ys, y.1.depth ≤ 8) → ∀ x ∈ ws, (nestedKind X.prog X.w).is s.heap x.1 x.2.1
  | _, _, .nil, _, _, _, hx => nomatch hx
  | y :: ys, q :: ws, .cons r t, ht, dep, x, hx => by
    rcases List.mem_cons.mp hx with e | hx
    · rw [e, ← r.1, ← r.2.1]
      exact ⟨nis_of I.hok y.1 (ht y List.mem_cons_self) rfl, dep y List.mem_cons_self⟩
    · exact nrel_is I t (fun z hz => ht z (List.mem_cons_of_mem _ hz)) (fun z hz => dep z (List.mem_cons_of_mem _ hz)) x hx
/-- the dict as the library tells it -/
theorem bdt_dict (I : Inv X pins σ H s) (dp : a.dep ≤ 8) (pl : a.plain = true) (h : BDt X.prog X.w H d a xs) : ∃ ys ws, H d = some (ndO X.prog X.w d ys) ∧ ys.map pj = xs.map (pk a) ∧ (∀ y ∈ ys, Tp H (.ref y.2.1) y.1.data) ∧ (d == sysModules) = false ∧ ys.length ≤ 1000 ∧ Paired NRel ys ws ∧ s.heap.DictOfH (nestedKind X.prog X.w) d ws := by
  obtain ⟨ys, e, ej, ht⟩ := h
  obtain ⟨⟨lo, z, ws, p, o, es, ep, ho, hx, hd, he, hn⟩, _⟩ := (show ObjOk X.prog X.w H s.heap d (ndO X.prog X.w d ys) from I.hok d _ e)
  refine ⟨ys, ws, e, ej, ht, lo, z, p, o, es, ep, ho, hx, hd, he, ?_, hn⟩
  have dep : ∀ y ∈ ys, y.1.depth ≤ 8 := fun y hy => by
    have : pj y ∈ xs.map (pk a) := ej ▸ List.mem_map.mpr ⟨y, hy, rfl⟩
    obtain ⟨p, _, ep⟩ := List.mem_map.mp this
    have e1 : nk a p.1 = y.1 := congrArg Prod.fst ep
    rw [← e1]
    exact Nat.le_trans (nk_depth a pl p.1) dp
  exact nrel_is I p ht dep
theorem key_is (I : Inv X pins σ H s) (dp : a.dep ≤ 8) (pl : a.plain = true) {b : Addr} (t : Tp H (.ref b) (enc a k)) : (nestedKind X.prog X.w).is s.heap (nk a k) b :=
  ⟨nis_enc I.hok t rfl, Nat.le_trans (nk_depth a pl k) dp⟩
end
end Cw
/-! part CwDr -/
set_option Elab.async false
set_option linter.all false
set_option maxRecDepth 100000
set_option maxHeartbeats 1000000
/-! What is asked of these dicts: {}, d.get(k, 0), d[k], d[k] = n. -/
namespace Cw
open PySem PySem.Spec PyProof.Rows L2 PySem.SeqAt
theorem room_nk {P : Program} {w : World} {A : Around} (hu : A.units + 64 < cLine) : (nestedKind P w).room A.in1 := by
  show A.in1.units + 8 < cLine
  rw [Around.in1_units]
  omega
theorem room_nk2 {P : Program} {w : World} {A : Around} (hu : A.units + 64 < cLine) : (nestedKind P w).room A.in1.in1 := by
  show A.in1.in1.units + 8 < cLine
  rw [Around.in1_units, Around.in1_units]
  omega
section
variable {X : Cx} {pins : List (Addr × Obj)} {σ : L2.St} {H : Hp} {s : Shared} {d : Addr} {a : Kd} {xs : List (Vl a × Int)} {k : Vl a} {y : V} {u : Value} {A : Around} {E : Value → Shared → Prop}
theorem tup_key {v : V} {u : Value} (np : a ≠ .num) (pl : a.plain = true) (t : Tp H v (enc a k)) (r : RelV v u) : ∃ b, v = .ref b ∧ u = .ref b := by
  cases a with
  | num => exact absurd rfl np
  | bag a => cases pl
  | unit =>
    obtain ⟨b, xs, rfl, _⟩ := (show Tp H v (.tuple []) from t).tup_of
    exact ⟨b, rfl, r⟩
  | pair a b =>
    obtain ⟨b, xs, rfl, _⟩ := (show Tp H v (.tuple [.str "pair", enc a k.1, enc b k.2]) from t).tup_of
    exact ⟨b, rfl, r⟩
  | either a b =>
    match k, t with
    | .inl k, t =>
      obtain ⟨b, xs, rfl, _⟩ := (show Tp H v (.tuple [.str "left", enc a k]) from t).tup_of
      exact ⟨b, rfl, r⟩
    | .inr k, t =>
      obtain ⟨b, xs, rfl, _⟩ := (show Tp H v (.tuple [.str "right", enc b k]) from t).tup_of
      exact ⟨b, rfl, r⟩
theorem bdt_not {P : Program} {w : World} {a : Kd} {xs : List (Vl a × Int)} (h : BDk P w H d a xs) : (∃ e : a = .num, H d = some (.dK ((e ▸ xs : List (Vl .num × Int)).map kf))) ∨ (a ≠ .num ∧ BDt P w H d a xs) := by
  cases a with
  | num => exact .inl ⟨rfl, h⟩
  | unit => exact .inr ⟨(fun e => by cases e), h⟩
  | pair a b => exact .inr ⟨(fun e => by cases e), h⟩
  | either a b => exact .inr ⟨(fun e => by cases e), h⟩
  | bag a => exact .inr ⟨(fun e => by cases e), h⟩
/-- d.get(k, 0) -/
theorem bd_get {Q : Value → Shared → Prop} {z : Value} (hu : A.units + 64 < cLine) (I : Inv X pins σ H s) (B : BD X.prog X.w H d a xs) (t : Tp H y (enc a k)) (ry : RelV y u) (rz : RelV (.int 0) z) (h : ∀ w' s', Inv X pins σ H s' → RelV (.int (cnt xs k)) w' → Q w' s') :
    wpAny (model X.prog X.w) A (call (.builtin "dict.get") [.ref d, u, z]) Q E s := by
  rcases bdt_not B.k with ⟨e, hk⟩ | ⟨ne, ht⟩
  · subst e
    obtain rfl := (show Tp H y (.int (toI k)) from t).int_of
    refine d_get2 (y := .int (toI k)) (d := .int 0) (o := (look xs k).map V.int) (by omega) I (.inl ⟨_, Sum.inl (toI k), .inl hk, rfl, look_kf.symm⟩) ry rz fun w' s' I' r => h w' s' I' ?_
    rw [← cnt_look B.nd]
    cases q : look xs k with
    | none => rw [q] at r; exact r
    | some n => rw [q] at r; exact r
  · obtain ⟨b, rfl, rfl⟩ := tup_key ne B.pl t ry
    obtain ⟨ys, ws, e, ej, hh, lo, len, p, dd⟩ := bdt_dict I B.dp B.pl ht
    refine call_meetsIn PySem.F.slot_dict_get dd.typeIs PySem.F.entry_dict_get (PySem.F.args_dict_get_3 _ _ _) (meetsH_dict_get_default (nestedKind X.prog X.w) d b lo z) ⟨room_nk hu, _, ws, key_is I B.dp B.pl t, dd, h _ _ (I.tok _) ?_⟩
    rw [← cnt_look B.nd, ← pj_look ej]
    rcases nrel_at (k := nk a k) p with ⟨q1, q2⟩ | ⟨b', n, tk, q1, q2⟩
    · rw [q1, q2]
      exact rz
    · rw [q1, q2]
      exact ⟨tk, rfl⟩
/-- d[k], there -/
theorem bd_item {Q : Value → Shared → Prop} (hu : A.units + 64 < cLine) (I : Inv X pins σ H s) (B : BD X.prog X.w H d a xs) (t : Tp H y (enc a k)) (ry : RelV y u) (hk : k ∈ xs.map (·.1)) (h : ∀ w' s', Inv X pins σ H s' → RelV (.int (cnt xs k)) w' → Q w' s') :
    wpAny (model X.prog X.w) A (getItem (.ref d) u) Q E s := by
  have hl : look xs k = some (cnt xs k) := by
    cases q : look xs k with
    | none => exact absurd hk (look_none.mp q)
    | some n => rw [← cnt_look B.nd, q]; rfl
  rcases bdt_not B.k with ⟨e, hd⟩ | ⟨ne, ht⟩
  · subst e
    obtain rfl := (show Tp H y (.int (toI k)) from t).int_of
    exact d_getItem (by omega) I (.inl ⟨_, Sum.inl (toI k), .inl hd, rfl, by rw [look_kf, hl]; rfl⟩) ry h
  · obtain ⟨b, rfl, rfl⟩ := tup_key ne B.pl t ry
    obtain ⟨ys, ws, e, ej, hh, lo, len, p, dd⟩ := bdt_dict I B.dp B.pl ht
    rw [← pj_look ej] at hl
    rcases nrel_at (k := nk a k) p with ⟨q1, q2⟩ | ⟨b', n, tk, q1, q2⟩
    · rw [q2] at hl; cases hl
    · rw [q2] at hl
      cases hl
      exact wpAny_getItem_heap (room_nk hu) (key_is I B.dp B.pl t) dd q1 (h _ _ (I.tok _) ⟨tk, rfl⟩)
/-- d[k] = n -/
theorem bd_set {Q : Unit → Shared → Prop} {n : Int} {z : Value} (hu : A.units + 64 < cLine) (I : Inv X pins σ H s) (B : BD X.prog X.w H d a xs) (t : Tp H y (enc a k)) (ry : RelV y u) (rz : RelV (.int n) z) (hlen : xs.length < 1000)
    (h : ∀ s' H', (∀ b o, b ≠ d → H b = some o → H' b = some o) → BD X.prog X.w H' d a (setB xs k n) → Inv X pins σ H' s' → Q () s') :
    wpAny (model X.prog X.w) A (setItem (.ref d) u z) Q E s := by
  have keep : ∀ o, ∀ b u, b ≠ d → H b = some u → upd H d o b = some u := fun o b u hb e => by rw [upd_ne hb]; exact e
  have l1 : (setB xs k n).length ≤ 1000 := by have := len_setB (xs := xs) (k := k) (n := n); omega
  rcases bdt_not B.k with ⟨e, hd⟩ | ⟨ne, ht⟩
  · subst e
    obtain rfl := (show Tp H y (.int (toI k)) from t).int_of
    have hz : (xs.map kf).length < sizeLine := by rw [List.length_map, sizeLine_eq]; omega
    refine d_setItem (v := .int n) (by omega) I (.inl ⟨_, Sum.inl (toI k), hd, rfl, hz, rfl⟩) ry rz fun s' I' => h s' _ (keep _) ⟨?_, nodup_setB B.nd, l1, B.pl, B.dp⟩ I'
    show upd H d (.dK (putK (xs.map kf) (Sum.inl (toI k)) (.int n))) d = some (.dK ((setB xs k n).map kf))
    rw [upd_same, set_kf]
  · obtain ⟨b, rfl, rfl⟩ := tup_key ne B.pl t ry
    obtain ⟨tk, rfl⟩ := rz
    obtain ⟨ys, ws, e, ej, hh, lo, len, p, dd⟩ := bdt_dict I B.dp B.pl ht
    have l2 : ys.length = xs.length := by have := congrArg List.length ej; rw [List.length_map, List.length_map] at this; exact this
    refine wpAny_setItem_heap (hsz := by rw [← nrel_len p, sizeLine_eq]; omega) (room_nk hu) (key_is I B.dp B.pl t) dd fun h' dd' hs => ?_
    obtain ⟨q, es, ep, hq, h2, h3, h4, _, h5⟩ := dd'
    have tk' : TK H (upd H d (ndO X.prog X.w d (setY ys (nk a k) b n))) := fun c o u ec => by
      have : c ≠ d := fun z => by rw [z, e] at ec; cases ec
      rw [upd_ne this]; exact ec
    have I' := d_write (ob := ndO X.prog X.w d (setY ys (nk a k) b n)) (t' := s.toks + (nestedKind X.prog X.w).draws (nk a k)) I (by rw [e]; exact True.intro) hs ⟨q, hq⟩ (ndO_ok ⟨lo, by have := setY_len (ys := ys) (k := nk a k) (a := b) (n := n); omega, _, nrel_set p, q, es, ep, hq, h2, h3, h4, h5⟩)
    have hb : BDt X.prog X.w (upd H d (ndO X.prog X.w d (setY ys (nk a k) b n))) d a (setB xs k n) := ⟨_, upd_same, pj_set ej, fun y hy => ?_⟩
    · refine h _ _ (keep _) ⟨?_, nodup_setB B.nd, l1, B.pl, B.dp⟩ I'
      cases a with
      | num => exact absurd rfl ne
      | _ => exact hb
    · refine Tp.mono tk' ?_
      unfold setY at hy
      split at hy
      · obtain ⟨z, hz, ez⟩ := List.mem_map.mp hy
        by_cases q : z.1 = nk a k
        · rw [if_pos q] at ez
          rw [← ez]
          exact hh z hz
        · rw [if_neg q] at ez
          rw [← ez]
          exact hh z hz
      · rcases List.mem_append.mp hy with hy | hy
        · exact hh y hy
        · rw [List.mem_singleton.mp hy]
          show Tp H (.ref b) (nk a k).data
          rw [nk_data]
          exact t
end
/-! rules -/
def HasB (P : Program) (w : World) (H : Hp) (d : Addr) : Prop := ∃ a xs, BD P w H d a xs
def tBGet (P : Program) (w : World) (td ty tx : TE) : TE := fun σ H Q => td σ H fun x H1 => ∃ d, x = .ref d ∧ HasB P w H1 d ∧ ty σ H1 fun y H2 => tx σ H2 fun z H3 => ∃ (a : Kd) (xs : List (Vl a × Int)) (k : Vl a), BD P w H3 d a xs ∧ Tp H3 y (enc a k) ∧ z = .int 0 ∧ Q (.int (cnt xs k)) H3
def tBItem (P : Program) (w : World) (td ty : TE) : TE := fun σ H Q => td σ H fun x H1 => ty σ H1 fun y H2 => ∃ (d : Addr) (a : Kd) (xs : List (Vl a × Int)) (k : Vl a), x = .ref d ∧ BD P w H2 d a xs ∧ Tp H2 y (enc a k) ∧ k ∈ xs.map (·.1) ∧ Q (.int (cnt xs k)) H2
def sBPut (P : Program) (w : World) (td ty tv : TE) : TS := fun D σ H => tv σ H fun v H1 => td σ H1 fun x H2 => ty σ H2 fun y H3 => ∃ (d : Addr) (a : Kd) (xs : List (Vl a × Int)) (k : Vl a) (n : Int), x = .ref d ∧ BD P w H3 d a xs ∧ Tp H3 y (enc a k) ∧ v = .int n ∧ xs.length < 1000 ∧
  ∀ H', (∀ b o, b ≠ d → H3 b = some o → H' b = some o) → BD P w H' d a (setB xs k n) → D.nx σ H'
def tBNew (P : Program) (w : World) : TE := fun _ H Q => ∃ a : Kd, a.plain = true ∧ a.dep ≤ 8 ∧ ∀ p H', H p = none → Same H H' → BD P w H' p a [] → Q (.ref p) H'
section
variable {X : Cx} {o i e f value : Expr} {apos cpos pos pos' : Pos} {td ty tx tv : TE}
theorem pe_nget2 (hu : X.A.units + 64 < cLine) (ho : PE X o td) (he : PE X e ty) (hf : PE X f tx) (m : M2 X o "get" apos e f cpos) : PE X (.Call (.Attribute o "get" apos) [e, f] [] cpos) (tBGet X.prog X.w td ty tx) := by
  refine ⟨fun pins s σ H Q I h => ?_⟩
  refine wpAny_Call_method m.base m.few m.line PySem.F.plainAttrs_dict PySem.F.slot_dict_get PySem.F.type_dict_get (thn (ho.run pins s σ H _ I h) fun u s1 ⟨x, H1, I1, rx, d, ex, ⟨a0, xs0, B0⟩, q1⟩ => ?_)
  subst ex
  obtain rfl : u = Value.ref d := rx
  refine ⟨B0.type I1, B0.noDict I1, ?_⟩
  rw [m.trees]
  refine Calls.callWith_builtin rfl (Calls.evalArgs_plain (Calls.spliced_cons (thn (he.run pins s1 σ H1 _ I1 q1) fun iv s2 ⟨y, H2, I2, ry, q2⟩ =>
    Calls.spliced_cons (thn (hf.run pins s2 σ H2 _ I2 q2) fun fv s3 ⟨z, H3, I3, rz, a, xs, k, B, t, ez, q3⟩ => Calls.spliced_nil ?_))))
  subst ez
  exact bd_get hu I3 B t ry rz fun w' s4 I4 rw' => ⟨_, H3, I4, rw', q3⟩
theorem pe_nget (hu : X.A.units + 64 < cLine) (ho : PE X o td) (hi : PE X i ty) (hs : NoSl i := by exact fun _ _ => rfl) : PE X (.Subscript o i pos) (tBItem X.prog X.w td ty) := by
  refine ⟨fun pins s σ H Q I h => ?_⟩
  refine subD_of PySem.F.slot_dict_getitem.lookup hs (thn (ho.run pins s σ H _ I h) fun u s1 ⟨x, H1, I1, rx, q1⟩ => thn (hi.run pins s1 σ H1 _ I1 q1) fun iv s2 ⟨y, H2, I2, ry, d, a, xs, k, ex, B, t, hk, q2⟩ => ?_)
  subst ex
  obtain rfl : u = Value.ref d := rx
  exact ⟨B.type I2, bd_item hu I2 B t ry hk fun w' s3 I3 rw' => ⟨_, H2, I3, rw', q2⟩⟩
theorem ps_nput (hu : X.A.units + 64 < cLine) (ho : PE X o td) (hi : PE X i ty) (hv : PE X value tv) (hs : swapsWith value (some (.Subscript o i pos')) pos.line X.env = pure false) :
    PS X (.Assign [.Subscript o i pos'] value pos) (sBPut X.prog X.w td ty tv) := by
  refine ⟨fun pins s σ H D I h => ?_⟩
  refine wpAny_Assign_Subscript (thn (hv.run pins s σ H _ I h) fun r s1 ⟨v, H1, I1, rv, q1⟩ => thn (ho.run pins s1 σ H1 _ I1 q1) fun u s2 ⟨x, H2, I2, rx, q2⟩ => thn (hi.run pins s2 σ H2 _ I2 q2) fun iv s3 ⟨y, H3, I3, ry, d, a, xs, k, n, ex, B, t, ev, hl, q3⟩ => ?_) hs
  subst ex ev
  obtain rfl : u = Value.ref d := rx
  exact bd_set hu I3 B t ry rv hl fun s4 H4 kp B4 I4 => ⟨σ, H4, I4, q3 H4 kp B4⟩
theorem pe_dnewN : PE X (.Dict [] [] pos) (tBNew X.prog X.w) := ⟨fun pins s σ H Q I ⟨a, pl, dp, h⟩ => by
  have hn : H s.heap.objs.size = none := I.hok.fresh (Nat.le_refl _)
  have fin : ∀ (o : HO), ObjOk X.prog X.w (upd H s.heap.objs.size o) (s.heap.push { cls := .type "dict", data := .dict #[] }) s.heap.objs.size o → BDk X.prog X.w (upd H s.heap.objs.size o) s.heap.objs.size a [] → wpAny (model X.prog X.w) X.A (eval (.Dict [] [] pos) X.env) (EP X pins σ Q) X.xe s := fun o ok b =>
    wpAny_Dict_empty ⟨.ref s.heap.objs.size, _, I.laid (a := s.heap.objs.size) (o := o) (t' := s.toks) (fun _ _ q => Heap.get?_push_of_some _ q) (Nat.le_refl _) ok, rfl, h _ _ hn (same_new hn _) ⟨b, List.nodup_nil, Nat.zero_le _, pl, dp⟩⟩
  have hr : Raw X.prog X.w s.heap.objs.size [] (s.heap.push { cls := .type "dict", data := .dict #[] }) := ⟨beq_eq_false_iff_ne.mpr (Ne.symm (Nat.ne_of_lt I.big)), Nat.zero_le _, [], .nil, _, #[], 0, Heap.get?_push_size _ rfl, ⟨rfl, rfl, rfl⟩, rfl, rfl, List.nodup_nil⟩
  have hb : BDt X.prog X.w (upd H s.heap.objs.size (ndO X.prog X.w s.heap.objs.size [])) s.heap.objs.size a [] := ⟨[], upd_same, rfl, fun _ hy => (nomatch hy)⟩
  cases a with
  | num => exact fin (.dK []) (dk_empty s.heap I.big) (show upd H _ (.dK []) _ = some (.dK (List.map kf [])) from upd_same)
  | _ => exact fin _ (ndO_ok hr) hb⟩
end
end Cw
/-! part CwSrt -/
set_option Elab.async false
set_option linter.all false
set_option maxRecDepth 100000
set_option maxHeartbeats 1000000
/-! sorted(d) of a dict of nested keys; dict(t) of a tuple of pairs. -/
namespace Cw
open PySem PySem.Spec PyProof.Rows L2 PySem.SeqAt
open PySem.W (KatTups kat_lt kat_cons kat_go kat_yes kat_no kat_nil kat_one kat_kind KatLex)
section
variable {prog : Program} {w : World} {A : Around} {E : Value → Shared → Prop} {s : Shared}
theorem kat_l0 {Q : Bool → Shared → Prop} {x y : Str} {t u : Tok} {b : Bool} {r : List (Value × Value)} (hne : (x == y) = false) (hk : decide (x.cps.toList < y.cps.toList) = b) (h : Q b s) : KatLex prog w A true false Q ((Value.str x t, Value.str y u) :: r) 0 s := by
  have q := EqAt.str_str (A := A) (s := s) x t y u
  rw [hne] at q
  exact kat_cons (q prog w _ _ (kat_no (oneLt_str (by rw [hk]; exact h))))
theorem cmp_v : ∀ {k : Kd} {x y : Vl k} {l l' : Addr} {as bs : List Addr}, k ≠ .num → k.plain = true → Reads s.heap (.ref l) (enc k x) as → Reads s.heap (.ref l') (enc k y) bs → A.units + 2 * k.dep < cLine →
    wpAny (model prog w) A (keyLt' (tuples' true) (.ref l) (.ref l')) (fun r s' => s' = s ∧ r = lt k x y) (fun _ _ => False) s
  | .unit, x, y, l, l', as, bs, _, _, ra, rb, hu => by
    obtain ⟨q, e, o, h1, h2, n, h3⟩ := rd0 (show Reads s.heap (.ref l) (.tuple []) as from ra)
    obtain ⟨q', e', o', k1, k2, n', k3⟩ := rd0 (show Reads s.heap (.ref l') (.tuple []) bs from rb)
    cases e
    cases e'
    refine kat_lt h1 h3 k1 k3 ?_
    exact kat_nil ⟨rfl, rfl⟩
  | .num, _, _, _, _, _, _, h, _, _, _, _ => absurd rfl h
  | .bag _, _, _, _, _, _, _, _, hp, _, _, _ => nomatch hp
  | .pair ka kb, x, y, l, l', as, bs, _, hp, ra, rb, hu => by
    obtain ⟨h1, h2⟩ := Bool.and_eq_true_iff.mp (show (ka.plain && kb.plain) = true from hp)
    obtain ⟨q, u0, u1, u2, a0, a1, a2, e, ⟨o, i1, i2, n, i3⟩, r0, r1, r2⟩ := rd3 (show Reads s.heap (.ref l) (.tuple [.str "pair", enc ka x.1, enc kb x.2]) as from ra)
    obtain ⟨q', v0, v1, v2, b0, b1, b2, e', ⟨o', j1, j2, n', j3⟩, q0, q1, q2⟩ := rd3 (show Reads s.heap (.ref l') (.tuple [.str "pair", enc ka y.1, enc kb y.2]) bs from rb)
    cases e
    cases e'
    have hu' : A.units + 2 * (max ka.dep kb.dep + 1) < cLine := hu
    have tx := eqAt_tx (A := A) (s := s) r0 q0 ok_pair ok_pair (by omega)
    rw [eq_tx] at tx
    have el : lt (.pair ka kb) x y = (lt ka x.1 y.1 || (decide (x.1 = y.1) && lt kb x.2 y.2)) := rfl
    refine kat_lt i1 i3 j1 j3 ?_
    show KatLex prog w A true (decide (3 < 3)) _ [(u0, v0), (u1, v1), (u2, v2)] 0 s
    refine kat_cons (tx prog w _ _ (kat_yes (kat_cons (eqAt_v (A := A) r1 q1 (by omega) prog w _ _ (kat_go (fun d1 => ?_) fun d1 => ?_)))))
    · have d1' := of_decide_eq_true d1
      refine kat_yes (kat_cons (eqAt_v (A := A) r2 q2 (by omega) prog w _ _ (kat_go (fun d2 => ?_) fun d2 => ?_)))
      · have d2' := of_decide_eq_true d2
        refine kat_yes (kat_nil ⟨rfl, ?_⟩)
        rw [el, ← d1', ← d2', lt_irr, lt_irr, Bool.and_false]
        rfl
      · refine kat_no (kat_one _ _ (rcLt_v kb x.2 y.2 A _ _ _ _ h2 r2 q2 (by omega) prog w _ _ ⟨rfl, ?_⟩))
        rw [el, ← d1', lt_irr, decide_eq_true rfl, Bool.false_or, Bool.true_and]
    · have d1' := of_decide_eq_false d1
      refine kat_no (kat_one _ _ (rcLt_v ka x.1 y.1 A _ _ _ _ h1 r1 q1 (by omega) prog w _ _ ⟨rfl, ?_⟩))
      rw [el, decide_eq_false d1', Bool.false_and, Bool.or_false]
  | .either ka kb, .inl x, .inl y, l, l', as, bs, _, hp, ra, rb, hu => by
    obtain ⟨h1, h2⟩ := Bool.and_eq_true_iff.mp (show (ka.plain && kb.plain) = true from hp)
    obtain ⟨q, u0, u1, a0, a1, e, ⟨o, i1, i2, n, i3⟩, r0, r1⟩ := rd2 (show Reads s.heap (.ref l) (.tuple [.str "left", enc ka x]) as from ra)
    obtain ⟨q', v0, v1, b0, b1, e', ⟨o', j1, j2, n', j3⟩, q0, q1⟩ := rd2 (show Reads s.heap (.ref l') (.tuple [.str "left", enc ka y]) bs from rb)
    cases e
    cases e'
    have hu' : A.units + 2 * (max ka.dep kb.dep + 1) < cLine := hu
    have tx := eqAt_tx (A := A) (s := s) r0 q0 ok_left ok_left (by omega)
    rw [eq_tx] at tx
    refine kat_lt i1 i3 j1 j3 ?_
    show KatLex prog w A true (decide (2 < 2)) _ [(u0, v0), (u1, v1)] 0 s
    refine kat_cons (tx prog w _ _ (kat_yes (kat_cons (eqAt_v (A := A) r1 q1 (by omega) prog w _ _ (kat_go (fun d1 => ?_) fun d1 => ?_)))))
    · refine kat_yes (kat_nil ⟨rfl, ?_⟩)
      show _ = lt ka x y
      rw [← of_decide_eq_true d1, lt_irr]
      rfl
    · exact kat_no (kat_one _ _ (rcLt_v ka x y A _ _ _ _ h1 r1 q1 (by omega) prog w _ _ ⟨rfl, rfl⟩))
  | .either ka kb, .inr x, .inr y, l, l', as, bs, _, hp, ra, rb, hu => by
    obtain ⟨h1, h2⟩ := Bool.and_eq_true_iff.mp (show (ka.plain && kb.plain) = true from hp)
    obtain ⟨q, u0, u1, a0, a1, e, ⟨o, i1, i2, n, i3⟩, r0, r1⟩ := rd2 (show Reads s.heap (.ref l) (.tuple [.str "right", enc kb x]) as from ra)
    obtain ⟨q', v0, v1, b0, b1, e', ⟨o', j1, j2, n', j3⟩, q0, q1⟩ := rd2 (show Reads s.heap (.ref l') (.tuple [.str "right", enc kb y]) bs from rb)
    cases e
    cases e'
    have hu' : A.units + 2 * (max ka.dep kb.dep + 1) < cLine := hu
    have tx := eqAt_tx (A := A) (s := s) r0 q0 ok_right ok_right (by omega)
    rw [eq_tx] at tx
    refine kat_lt i1 i3 j1 j3 ?_
    show KatLex prog w A true (decide (2 < 2)) _ [(u0, v0), (u1, v1)] 0 s
    refine kat_cons (tx prog w _ _ (kat_yes (kat_cons (eqAt_v (A := A) r1 q1 (by omega) prog w _ _ (kat_go (fun d1 => ?_) fun d1 => ?_)))))
    · refine kat_yes (kat_nil ⟨rfl, ?_⟩)
      show _ = lt kb x y
      rw [← of_decide_eq_true d1, lt_irr]
      rfl
    · exact kat_no (kat_one _ _ (rcLt_v kb x y A _ _ _ _ h2 r1 q1 (by omega) prog w _ _ ⟨rfl, rfl⟩))
  | .either ka kb, .inl x, .inr y, l, l', as, bs, _, hp, ra, rb, hu => by
    obtain ⟨q, u0, u1, a0, a1, e, ⟨o, i1, i2, n, i3⟩, r0, r1⟩ := rd2 (show Reads s.heap (.ref l) (.tuple [.str "left", enc ka x]) as from ra)
    obtain ⟨q', v0, v1, b0, b1, e', ⟨o', j1, j2, n', j3⟩, q0, q1⟩ := rd2 (show Reads s.heap (.ref l') (.tuple [.str "right", enc kb y]) bs from rb)
    cases e
    cases e'
    cases r0
    cases q0
    exact kat_lt i1 i3 j1 j3 (kat_l0 bq_lr lt_lr ⟨rfl, rfl⟩)
  | .either ka kb, .inr x, .inl y, l, l', as, bs, _, hp, ra, rb, hu => by
    obtain ⟨q, u0, u1, a0, a1, e, ⟨o, i1, i2, n, i3⟩, r0, r1⟩ := rd2 (show Reads s.heap (.ref l) (.tuple [.str "right", enc kb x]) as from ra)
    obtain ⟨q', v0, v1, b0, b1, e', ⟨o', j1, j2, n', j3⟩, q0, q1⟩ := rd2 (show Reads s.heap (.ref l') (.tuple [.str "left", enc ka y]) bs from rb)
    cases e
    cases e'
    cases r0
    cases q0
    exact kat_lt i1 i3 j1 j3 (kat_l0 bq_rl lt_rl ⟨rfl, rfl⟩)
end
/-- the order, on values: f tells the key of a value -/
def ltf {a : Kd} (f : Value → Option (Vl a)) (v u : Value) : Bool := match f v, f u with
  | some x, some y => lt a x y
  | some _, none => true
  | none, _ => false
theorem swo_f {a : Kd} (pl : a.plain = true) (f : Value → Option (Vl a)) : SrtO.Swo (ltf f) := by
  have O := ltO pl
  refine ⟨fun x y h => ?_, fun x y z h1 h2 => ?_⟩
  · unfold ltf at h ⊢
    cases hx : f x <;> cases hy : f y <;> simp only [hx, hy] at h ⊢ <;> first | rfl | exact O.asym h | exact nomatch h
  · unfold ltf at h1 h2 ⊢
    cases hx : f x with
    | none =>
      cases hy : f y with
      | none => cases hz : f z <;> simp only [hx, hy, hz] at h1 h2 ⊢ <;> first | rfl | exact nomatch h2
      | some y' => simp only [hx, hy] at h1; exact nomatch h1
    | some x' =>
      cases hz : f z with
      | none => rfl
      | some z' =>
        cases hy : f y with
        | none => simp only [hy, hz] at h2; exact nomatch h2
        | some y' =>
          simp only [hx, hy, hz] at h1 h2 ⊢
          cases q : lt a z' x' with
          | false => rfl
          | true =>
            by_cases e : y' = z'
            · rw [e] at h1; rw [h1] at q; cases q
            · rcases O.tri y' z' e with r | r
              · have := O.trn _ _ _ r q
                rw [h1] at this; cases this
              · rw [h2] at r; cases r
end Cw
/-! part CwSr2 -/
set_option Elab.async false
set_option linter.all false
set_option maxRecDepth 100000
set_option maxHeartbeats 1000000
namespace Cw
open PySem PySem.Spec PyProof.Rows L2 PySem.SeqAt
open PySem.W (KatTups kat_kind)
section
variable {X : Cx} {pins : List (Addr × Obj)} {σ : L2.St} {H : Hp} {s : Shared}
/-- the values vs stand for the keys zs -/
def KeysAt (H : Hp) (a : Kd) (vs : List Value) (zs : List (Vl a)) : Prop := Paired (fun v z => ∃ b, v = Value.ref b ∧ Tp H (.ref b) (enc a z)) vs zs
theorem first_of {a : Kd} {z : Vl a} {b : Addr} {as : List Addr} (nn : a ≠ .num) (nu : a ≠ .unit) (pl : a.plain = true) (r : Reads s.heap (.ref b) (enc a z) as) : ∃ (o : Obj) (xs : Array Value) (n : Nat) (t : Str) (tk : Tok), s.heap.get? b = some o ∧ o.cls = .type "tuple" ∧ o.data = .seq xs n ∧ xs[0]? = some (.str t tk) := by
  cases a with
  | num => exact absurd rfl nn
  | unit => exact absurd rfl nu
  | bag a => cases pl
  | pair ka kb =>
    obtain ⟨q, u0, u1, u2, _, _, _, e, ⟨o, i1, i2, n, i3⟩, r0, _, _⟩ := rd3 (show Reads s.heap (.ref b) (.tuple [.str "pair", enc ka z.1, enc kb z.2]) as from r)
    cases e
    cases r0 with
    | str x t => exact ⟨o, _, n, _, t, i1, i2, i3, rfl⟩
  | either ka kb =>
    match z, r with
    | .inl z, r =>
      obtain ⟨q, u0, u1, _, _, e, ⟨o, i1, i2, n, i3⟩, r0, _⟩ := rd2 (show Reads s.heap (.ref b) (.tuple [.str "left", enc ka z]) as from r)
      cases e
      cases r0 with
      | str x t => exact ⟨o, _, n, _, t, i1, i2, i3, rfl⟩
    | .inr z, r =>
      obtain ⟨q, u0, u1, _, _, e, ⟨o, i1, i2, n, i3⟩, r0, _⟩ := rd2 (show Reads s.heap (.ref b) (.tuple [.str "right", enc kb z]) as from r)
      cases e
      cases r0 with
      | str x t => exact ⟨o, _, n, _, t, i1, i2, i3, rfl⟩
theorem keys_get {H : Hp} {a : Kd} : ∀ {vs : List Value} {zs : List (Vl a)}, KeysAt H a vs zs → ∀ v ∈ vs, ∃ z ∈ zs, ∃ b, v = Value.ref b ∧ Tp H (.ref b) (enc a z)
  | _, _, .nil, _, hv => nomatch hv
  | _, _, .cons r t, v, hv => by
    rcases List.mem_cons.mp hv with e | hv
    · exact ⟨_, List.mem_cons_self, e ▸ r⟩
    · obtain ⟨z, hz, q⟩ := keys_get t v hv
      exact ⟨z, List.mem_cons_of_mem _ hz, q⟩
theorem firsts {a : Kd} (I : Inv X pins σ H s) (nn : a ≠ .num) (nu : a ≠ .unit) (pl : a.plain = true) : ∀ {vs : List Value}, (∀ v ∈ vs, ∃ (z : Vl a) (b : Addr), v = Value.ref b ∧ Tp H (.ref b) (enc a z)) → ∃ fs, KatTups s.heap vs fs ∧ fs.length = vs.length ∧ ∀ f ∈ fs, ∃ x t, f = Value.str x t
  | [], _ => ⟨[], KatTups.nil, rfl, fun _ h => nomatch h⟩
  | v :: vs, h => by
    obtain ⟨fs, k, l, e⟩ := firsts I nn nu pl fun u hu => h u (List.mem_cons_of_mem _ hu)
    obtain ⟨z, b, rfl, t⟩ := h v List.mem_cons_self
    obtain ⟨as, r⟩ := Dp.reads I _ _ _ t.dp rfl
    obtain ⟨o, xs, n, x, tk, i1, i2, i3, i4⟩ := first_of (s := s) nn nu pl r
    exact ⟨.str x tk :: fs, KatTups.cons i1 i2 i3 i4 k, by rw [List.length_cons, List.length_cons, l], fun f hf => by
      rcases List.mem_cons.mp hf with q | q
      · exact ⟨x, tk, q⟩
      · exact e f q⟩
theorem key_fun {h : Heap} {a : Kd} : ∃ f : Value → Option (Vl a), ∀ (k : Vl a) (v : Value), NestedIs h (nk a k) v → f v = some k := by
  refine ⟨fun v => open Classical in if q : ∃ k, NestedIs h (nk a k) v then some q.choose else none, fun k v hk => ?_⟩
  have q : ∃ k, NestedIs h (nk a k) v := ⟨k, hk⟩
  show (open Classical in if q : ∃ k, NestedIs h (nk a k) v then some q.choose else none) = some k
  rw [dif_pos q]
  exact congrArg some (nk_inj (NestedIs.inj _ _ _ q.choose_spec hk))
theorem unit_one {vs : List Value} : ∀ {zs : List (Vl .unit)}, zs.Nodup → zs.length ≤ 1
  | [], _ => Nat.zero_le _
  | [_], _ => Nat.le_refl _
  | x :: y :: r, h => absurd (show x = y from rfl) fun e => (List.nodup_cons.mp h).1 (by rw [e]; exact List.mem_cons_self)
/-- the sort of a list of keys -/
theorem sort_keys {a : Kd} {f : Value → Option (Vl a)} (nn : a ≠ .num) (pl : a.plain = true) (dp : a.dep ≤ 8) {A : Around} (hu : A.units + 60 < cLine) {zs : List (Vl a)} {vs : List Value} {l : Addr} (I : Inv X pins σ H s) (ks : Paired (fun v z => ∃ b, v = Value.ref b ∧ Tp H (.ref b) (enc a z)) vs zs) (nd : zs.Nodup)
    (hf : ∀ (k : Vl a) (v : Value), NestedIs s.heap (nk a k) v → f v = some k) {s1 : Shared} (hk : ∀ b o, s.heap.get? b = some o → b ≠ l ∧ s1.heap.get? b = some o) (hos : s1.os = s.os) (hg : s1.gens = s.gens) (hd : s1.drawn = s.drawn) (h2 : 2 ≤ vs.length) : SrtO.SortableO X.prog X.w A s1 l vs (ltf f) := by
  intro h' keep
  have kp : ∀ b o, s.heap.get? b = some o → h'.get? b = some o := fun b o e => keep b o (hk b o e).1 (hk b o e).2
  have I' : Inv X pins σ H { s with heap := h', toks := s1.toks } := I.kept kp
  have es : ({ s1 with heap := h' } : Shared) = { s with heap := h', toks := s1.toks } := by
    obtain ⟨q1, q2, q3, q4, q5⟩ := s1
    obtain ⟨p1, p2, p3, p4, p5⟩ := s
    simp only at hos hg hd
    subst hos hg hd
    rfl
  rw [es]
  have nu : a ≠ .unit := fun e => by
    subst e
    have := unit_one (vs := vs) nd
    rw [← Paired.length ks] at this
    omega
  have mem := keys_get ks
  obtain ⟨fs, kt, lf, ef⟩ := firsts (vs := vs) I' nn nu pl fun v hv => by
    obtain ⟨z, _, b, e, t⟩ := mem v hv
    exact ⟨z, b, e, t⟩
  refine ⟨tuples' true, fun Q E hq => ?_, fun p q hp hq => ?_⟩
  · refine kat_kind (T := .type "str") kt (by omega) (fun f hm => ?_) (by rfl) ?_
    · obtain ⟨x, t, rfl⟩ := ef f hm
      exact PySem.W.Looks.now
    · have e : (Value.type "str" != Value.type "tuple") = true := by first | decide +kernel | rfl | decide
      rw [e]
      exact hq
  · obtain ⟨x, _, b, e1, t1⟩ := mem _ hp
    obtain ⟨y, _, c, e2, t2⟩ := mem _ hq
    obtain ⟨as, r1⟩ := Dp.reads I' _ _ _ t1.dp rfl
    obtain ⟨bs, r2⟩ := Dp.reads I' _ _ _ t2.dp rfl
    have f1 := hf x p.1 (by rw [e1]; exact nis_enc I.hok t1 rfl)
    have f2 := hf y q.1 (by rw [e2]; exact nis_enc I.hok t2 rfl)
    have el : SrtO.lt2 (ltf f) p q = lt a x y := by
      show ltf f p.1 q.1 = _
      unfold ltf
      rw [f1, f2]
    rw [el, e1, e2]
    exact cmp_v (s := { s with heap := h', toks := s1.toks }) nn pl r1 r2 (by omega)
end
theorem pw_map {α β : Type} {R : α → α → Prop} {S : β → β → Prop} {F : β → α → Prop} (h : ∀ x y u v, F u x → F v y → S u v → R x y) : ∀ {us : List β} {xs : List α}, Paired F us xs → us.Pairwise S → xs.Pairwise R
  | _, _, .nil, _ => .nil
  | _, _, .cons r t, p => by
    obtain ⟨p1, p2⟩ := List.pairwise_cons.mp p
    refine List.pairwise_cons.mpr ⟨fun x hx => ?_, pw_map h t p2⟩
    clear p
    have : ∀ {us : List β} {xs : List α}, Paired F us xs → ∀ x ∈ xs, ∃ u ∈ us, F u x := fun {us xs} q => by
      induction q with
      | nil => exact fun _ h => nomatch h
      | cons r t ih =>
        intro x hx
        rcases List.mem_cons.mp hx with e | hx
        · exact ⟨_, List.mem_cons_self, e ▸ r⟩
        · obtain ⟨u, hu, f⟩ := ih x hx
          exact ⟨u, List.mem_cons_of_mem _ hu, f⟩
    obtain ⟨u, hu, f⟩ := this t x hx
    exact h _ _ _ _ r f (p1 u hu)
theorem perm_back {α β : Type} {F : β → α → Prop} {vs us : List β} (p : us.Perm vs) : ∀ {zs : List α}, Paired F vs zs → ∃ ys, ys.Perm zs ∧ Paired F us ys := by
  induction p with
  | nil => intro zs h; cases h; exact ⟨[], List.Perm.refl _, .nil⟩
  | cons x p ih =>
    intro zs h
    cases h with
    | cons r t =>
      obtain ⟨ys, p1, p2⟩ := ih t
      exact ⟨_ :: ys, p1.cons _, .cons r p2⟩
  | swap x y l =>
    intro zs h
    cases h with
    | cons r t =>
      cases t with
      | cons r2 t => exact ⟨_, List.Perm.swap .., .cons r2 (.cons r t)⟩
  | trans p q ih1 ih2 =>
    intro zs h
    obtain ⟨ys, a, b⟩ := ih2 h
    obtain ⟨xs, c, d⟩ := ih1 b
    exact ⟨xs, c.trans a, d⟩
end Cw
/-! part CwSr3 -/
set_option Elab.async false
set_option linter.all false
set_option maxRecDepth 100000
set_option maxHeartbeats 1000000
/-! The calls sorted(d), dict(t). -/
namespace Cw
open PySem PySem.Spec PyProof.Rows L2 PySem.SeqAt
section
variable {X : Cx}
def rSortB (P : Program) (w : World) : List V → Hp → VK → Prop := fun vs H Q => ∃ (d : Addr) (a : Kd) (xs : List (Vl a × Int)), vs = [.ref d] ∧ BD P w H d a xs ∧ xs.length < 64 ∧
  ∀ (p : Addr) (us : List V) (zs : List (Vl a)) (H' : Hp), H p = none → Same H H' → H' p = some (.lst us) → TpAll H' us (zs.map (enc a)) → zs.Perm (xs.map (·.1)) → zs.Pairwise (fun x y => lt a y x = false) → Q (.ref p) H'
theorem tpall_map {H : Hp} {a : Kd} : ∀ {us : List V} {zs : List (Vl a)}, Paired (fun u z => Tp H u (enc a z)) us zs → TpAll H us (zs.map (enc a))
  | _, _, .nil => .nil
  | _, _, .cons r t => .cons r (tpall_map t)
theorem tpall_ints {H : Hp} : ∀ {ys : List Int}, TpAll H (ys.map V.int) ((show List (Vl .num) from ys).map (enc .num))
  | [] => .nil
  | y :: ys => .cons (.int y) tpall_ints
theorem keys_pair {H : Hp} {a : Kd} : ∀ {ys : List NE} {ws : List (NestedKey × Addr × Value)} {xs : List (Vl a × Int)}, Paired NRel ys ws → ys.map pj = xs.map (pk a) → (∀ y ∈ ys, Tp H (.ref y.2.1) y.1.data) → Paired (fun (q : NestedKey × Addr × Value) z => Tp H (.ref q.2.1) (enc a z)) ws (xs.map (·.1))
  | _, _, [], .nil, _, _ => .nil
  | y :: ys, q :: ws, p :: xs, .cons r t, h, ht => by
    obtain ⟨h1, h2⟩ := List.cons.inj (show pj y :: ys.map pj = pk a p :: xs.map (pk a) from h)
    have e : y.1 = nk a p.1 := congrArg Prod.fst h1
    refine .cons ?_ (keys_pair t h2 fun z hz => ht z (List.mem_cons_of_mem _ hz))
    have := ht y List.mem_cons_self
    rw [e, nk_data, r.2.1] at this
    exact this
  | _, _, _ :: _, .nil, h, _ => nomatch h
  | _ :: _, _ :: _, [], .cons _ _, h, _ => nomatch h
theorem paired_mapl {α β γ : Type} {F : γ → β → Prop} {f : α → γ} : ∀ {xs : List α} {ys : List β}, Paired (fun x y => F (f x) y) xs ys → Paired F (xs.map f) ys
  | _, _, .nil => .nil
  | _, _, .cons r t => .cons r (paired_mapl t)
theorem out_vals {H : Hp} {a : Kd} : ∀ {out : List Value} {zs : List (Vl a)}, Paired (fun v z => ∃ b, v = Value.ref b ∧ Tp H (.ref b) (enc a z)) out zs → ∃ us, Vals us out ∧ Paired (fun u z => Tp H u (enc a z)) us zs
  | _, _, .nil => ⟨[], .nil, .nil⟩
  | _, _, .cons ⟨b, e, r⟩ t => by
    obtain ⟨us, v, p⟩ := out_vals t
    exact ⟨.ref b :: us, .cons e v, .cons r p⟩
def ikeys (xs : List (Vl .num × Int)) : List Int := xs.map fun p => toI p.1
theorem ikeys_kf : ∀ xs : List (Vl .num × Int), (xs.map kf).map (·.1) = (ikeys xs).map Sum.inl
  | [] => rfl
  | p :: xs => congrArg _ (ikeys_kf xs)
theorem ikeys_len (xs : List (Vl .num × Int)) : (ikeys xs).length = xs.length := List.length_map _
theorem cr_sortB (hc : X.calm = true) (hu : X.A.units + 64 < cLine) : CallR X (.builtin "sorted") (rSortB X.prog X.w) := by
  intro pins s σ H vs us Q I r h
  obtain ⟨d, a, xs, rfl, B, h64, q⟩ := h
  rcases bdt_not B.k with ⟨e, hd⟩ | ⟨ne, ht⟩
  · subst e
    refine call_sortedDI hc pins s σ H _ us Q I r ⟨d, _, ikeys xs, rfl, .inl hd, ikeys_kf xs, by rw [ikeys_len]; exact h64, fun ys p hp hs hn => ?_⟩
    refine q p _ (show List (Vl .num) from ys) _ hn (same_new hn _) upd_same tpall_ints hp ?_
    exact List.Pairwise.imp (fun {x y} (hxy : x ≤ y) => decide_eq_false (show ¬ (y : Int) < x by omega)) hs
  · obtain rfl := Vals.ref1 r
    obtain ⟨ys, ws, e, ej, hh, lo, len, pr, dd⟩ := bdt_dict I B.dp B.pl ht
    obtain ⟨o, es, ep, ho, hx, hdat, hes, his, hnd⟩ := id dd
    have raw : s.heap.DictRaw d es ep := ⟨o, ho, hx, hdat⟩
    have l1 : es.size = ws.length := size_of_entries hes
    have l2 := nrel_len pr
    have l3 : ys.length = xs.length := by have := congrArg List.length ej; rw [List.length_map, List.length_map] at this; exact this
    have hz : es.size ≤ sizeLine := by rw [sizeLine_eq]; omega
    refine Calls.call_function_entry PyProof.Rows.kind_sorted PyProof.Rows.plain_sorted PyProof.Rows.entry_sorted (PyProof.Rows.args_sorted1 _) ?_
    unfold Builtin.«sorted»
    refine wpAny_bind (m := checkCount "sorted" 1 1 _) (wpAny_pure ?_)
    refine wpAny_bind (PySem.W.kdu_collect (A := X.A.in1) (KdlSrc.rawDict (prog := X.prog) (w := X.w) (es := es) (ep := ep) lo) (I.ok.hd hc) raw hz fun h' tk acc hk hacc => ?_)
    have hal : acc.toList.length = ws.length := by rw [Array.length_toList, hacc.1, l1]
    have hacc2 : acc.toList = ws.map fun q => Value.ref q.2.1 := by
      refine List.ext_getElem? fun j => ?_
      rw [List.getElem?_map]
      cases hj : acc.toList[j]? with
      | none =>
        have : ws.length ≤ j := by rw [← hal]; exact List.getElem?_eq_none_iff.mp hj
        rw [List.getElem?_eq_none this]; rfl
      | some v =>
        obtain ⟨hi, ev⟩ := hacc.2 j v (by rw [← Array.getElem?_toList]; exact hj)
        have he := entry_at hes j
        rw [Array.getElem?_eq_getElem hi] at he
        cases hw : ws[j]? with
        | none => rw [hw] at he; cases he
        | some w0 =>
          rw [hw] at he
          have he' : es[j] = entryOfKey (nestedKind X.prog X.w) w0 := Option.some.inj he
          rw [ev, he']
          rfl
    have I1 : Inv X pins σ H { s with heap := h', toks := tk } := I.kept hk
    have ks : Paired (fun v z => ∃ b, v = Value.ref b ∧ Tp H (.ref b) (enc a z)) acc.toList (xs.map (·.1)) := by
      rw [hacc2]
      exact paired_mapl (Paired.mapP (keys_pair pr ej hh) fun q z t => ⟨_, rfl, t⟩)
    refine wpAny_bind (wpAny_newList ?_ (by rw [hal, sizeLine_eq]; omega))
    have hoL : (h'.push (seqObj "list" acc.toList.toArray 0)).get? h'.objs.size = some (seqObj "list" acc.toList.toArray 0) := Heap.get?_push_size _ rfl
    show wpAny _ _ _ _ _ { s with heap := h'.push (seqObj "list" acc.toList.toArray 0), toks := tk }
    obtain ⟨f, hf⟩ := key_fun (h := h') (a := a)
    refine wpAny_bind (wpAny_holding (wpAny_call_entry PyProof.Rows.slot_list_sort ⟨_, hoL, rfl⟩ PyProof.Rows.entry_list_sort
      (SrtO.list_sort_ord (s := { s with heap := h'.push (seqObj "list" acc.toList.toArray 0), toks := tk }) (ltv := ltf f) (swo_f B.pl f) hoL (by rw [hal, sizeLine_eq]; omega) (fun h2 => ?_) fun out g1 g2 => ⟨_, rfl, ?_⟩) (PyProof.Rows.args_list_sort _)))
    · refine sort_keys (s := { s with heap := h', toks := tk }) ne B.pl B.dp (by show X.A.in1.in1.units + 60 < cLine; rw [Around.in1_units, Around.in1_units]; omega) I1 ks B.nd hf (fun b o e => ?_) rfl rfl rfl h2
      exact ⟨Nat.ne_of_lt (Heap.lt_size e), Heap.get?_push_of_some _ e⟩
    · obtain ⟨e', he'⟩ := PyProof.Rows.sortedHeap_at (vs := acc.toList) (out := out.toArray) hoL
      obtain ⟨zs, pz, kz⟩ := perm_back g2.perm ks
      obtain ⟨us, rv, pu⟩ := out_vals kz
      have hn : H h'.objs.size = none := I1.hok.fresh (Nat.le_refl _)
      have hlen : us.length ≤ sizeLine := by
        rw [Paired.length pu, pz.length_eq, List.length_map, sizeLine_eq]
        omega
      refine wpAny_pure ⟨_, rfl, .ref h'.objs.size, upd H h'.objs.size (.lst us), I1.laid (t' := tk) (fun b u e => ?_) (Nat.le_refl _)
        (show ObjOk X.prog X.w _ _ _ (.lst us) from ⟨hlen, out, e', rv, he'⟩), rfl, q _ us zs _ hn (same_new hn _) upd_same ((tpall_map pu).mono (TK.same (same_new hn _))) pz ?_⟩
      · have hb : b < h'.objs.size := Heap.lt_size e
        rw [PyProof.Rows.sortedHeap_old (Nat.ne_of_lt hb) (by rw [size_push']; exact Nat.lt_succ_of_lt hb)]
        exact Heap.get?_push_of_some _ e
      · refine pw_map (S := fun x y => ltf f y x = false) (fun x y u v hu hv hs => ?_) kz g1
        obtain ⟨b, rfl, t1⟩ := hu
        obtain ⟨c, rfl, t2⟩ := hv
        have f1 := hf x _ (nis_enc I1.hok t1 rfl)
        have f2 := hf y _ (nis_enc I1.hok t2 rfl)
        unfold ltf at hs
        rw [f1, f2] at hs
        exact hs
end
end Cw
/-! part CwSr4 -/
set_option Elab.async false
set_option linter.all false
set_option maxRecDepth 100000
set_option maxHeartbeats 1000000
/-! dict(t) of a tuple of pairs with distinct keys. -/
namespace Cw
open PySem PySem.Spec PyProof.Rows L2 PySem.SeqAt
structure Rc (a : Kd) where
  T : Addr
  p : Vl a × Int
  ku : Value
  nu : Value
  kv : V
def Rc.ok {a : Kd} (H : Hp) (h : Heap) (r : Rc a) : Prop := h.IsTuple r.T #[r.ku, r.nu] ∧ (∃ t, r.nu = .int r.p.2 t) ∧ Tp H r.kv (enc a r.p.1) ∧ RelV r.kv r.ku
section
variable {X : Cx} {pins : List (Addr × Obj)} {σ : L2.St} {H : Hp} {s : Shared}
theorem recs {P : Program} {w : World} {h : Heap} {a : Kd} (ok : HOk P w H h) : ∀ {xs : List (Vl a × Int)} {us : List V} {its : List Value}, TpAll H us (xs.map (encP a)) → Vals us its → ∃ rs : List (Rc a), rs.map (·.p) = xs ∧ its = rs.map (fun r => Value.ref r.T) ∧ ∀ r ∈ rs, r.ok H h
  | [], _, _, t, v => by
    cases t
    cases v
    exact ⟨[], rfl, rfl, fun _ h => nomatch h⟩
  | x :: xs, _, _, t, v => by
    cases t with
    | cons t1 t2 =>
      cases v with
      | cons v1 v2 =>
        obtain ⟨rs, e1, e2, e3⟩ := recs ok t2 v2
        obtain ⟨b, ws, rfl, fb, tw⟩ := (show Tp H _ (.tuple [enc a x.1, .int x.2]) from t1).tup_of
        obtain ⟨kv, nv, rfl, tk, tn⟩ := tp2 tw
        obtain rfl := tn.int_of
        cases v1
        obtain ⟨_, its', rv, o, ho, hc, n, hd⟩ := (show ObjOk P w H h b (.tup [kv, .int x.2]) from fb.rd.ok ok)
        cases rv with
        | cons r1 rr =>
          cases rr with
          | cons r2 rr =>
            cases rr
            exact ⟨⟨b, x, _, _, kv⟩ :: rs, by rw [List.map_cons, e1], by rw [List.map_cons, e2], fun r hr => by
              rcases List.mem_cons.mp hr with e | hr
              · rw [e]
                exact ⟨⟨o, ho, hc, n, hd⟩, r2, tk, r1⟩
              · exact e3 r hr⟩
theorem merged_nd {K : Type} [DecidableEq K] : ∀ (kvs acc : List (K × Value)), ((acc ++ kvs).map (·.1)).Nodup → merged acc kvs = acc ++ kvs
  | [], acc, _ => (List.append_nil _).symm
  | p :: kvs, acc, h => by
    have hn : p.1 ∉ acc.map (·.1) := fun hm => by
      rw [List.map_append, List.map_cons] at h
      exact (List.nodup_append.mp h).2.2 _ hm _ List.mem_cons_self rfl
    have es : stored acc p.1 p.2 = acc ++ [p] := by
      unfold stored
      rw [if_neg]
      rw [List.any_eq_true]
      rintro ⟨q, hq, e⟩
      exact hn (List.mem_map.mpr ⟨q, hq, by simpa using e⟩)
    show merged (stored acc p.1 p.2) kvs = _
    rw [es, merged_nd kvs (acc ++ [p]) (by rw [List.append_assoc]; exact h), List.append_assoc]
    rfl
theorem storedAll_nd {K : Type} [DecidableEq K] : ∀ (ps acc : List (K × Addr × Value)), ((acc ++ ps).map (·.1)).Nodup → storedAllH acc ps = acc ++ ps
  | [], acc, _ => (List.append_nil _).symm
  | p :: ps, acc, h => by
    have hn : p.1 ∉ acc.map (·.1) := fun hm => by
      rw [List.map_append, List.map_cons] at h
      exact (List.nodup_append.mp h).2.2 _ hm _ List.mem_cons_self rfl
    have es : storedH acc p.1 p.2.1 p.2.2 = acc ++ [p] := by
      refine storedH_new ?_ _ _
      cases q : atKey acc p.1 with
      | none => rfl
      | some z =>
        unfold atKey at q
        obtain ⟨y, hy, _⟩ := Option.map_eq_some_iff.mp q
        have h1 := List.mem_of_find?_eq_some hy
        have h2 := List.find?_some hy
        exact absurd (List.mem_map.mpr ⟨y, h1, by simpa using h2⟩) hn
    show storedAllH (storedH acc p.1 p.2.1 p.2.2) ps = _
    rw [es, storedAll_nd ps (acc ++ [p]) (by rw [List.append_assoc]; exact h), List.append_assoc]
    rfl
def rDictB (P : Program) (w : World) : List V → Hp → VK → Prop := fun vs H Q => ∃ (v : V) (a : Kd) (xs : List (Vl a × Int)), vs = [v] ∧ a.plain = true ∧ a.dep ≤ 8 ∧ Tp H v (enc (.bag a) xs) ∧ (xs.map (·.1)).Nodup ∧ xs.length ≤ 1000 ∧
  ∀ (p : Addr) (H' : Hp), H p = none → Same H H' → BD P w H' p a xs → Q (.ref p) H'
theorem kv_recs {H : Hp} {h : Heap} {P : Program} {w : World} : ∀ {rs : List (Rc .num)}, (∀ r ∈ rs, r.ok H h) → KV ((rs.map (·.p)).map kf) (rs.map fun r => ((Sum.inl (toI r.p.1) : L2.Key), r.nu))
  | [], _ => .nil
  | r :: rs, h => .cons ⟨rfl, (h r List.mem_cons_self).2.1⟩ (kv_recs (P := P) (w := w) fun q hq => h q (List.mem_cons_of_mem _ hq))
def adr : Value → Addr
  | .ref b => b
  | _ => 0
theorem nrel_recs {a : Kd} {H : Hp} {h : Heap} : ∀ {rs : List (Rc a)}, (∀ r ∈ rs, r.ok H h) → Paired NRel (rs.map fun r => (nk a r.p.1, adr r.ku, r.p.2)) (rs.map fun r => (nk a r.p.1, adr r.ku, r.nu))
  | [], _ => .nil
  | r :: rs, h => .cons ⟨rfl, rfl, (h r List.mem_cons_self).2.1⟩ (nrel_recs fun q hq => h q (List.mem_cons_of_mem _ hq))
theorem cr_dictB (hc : X.calm = true) (hu : X.A.units + 64 < cLine) : CallR X (.type "dict") (rDictB X.prog X.w) := by
  intro pins s σ H vs us Q I r h
  obtain ⟨v, a, xs, rfl, pl, dp, t, nd, len, q⟩ := h
  obtain ⟨u, rfl, ru⟩ := vals1 r
  obtain ⟨l, ws, rfl, ⟨o, od, el⟩, tw⟩ := (show Tp H v (.tuple (xs.map (encP a))) from t).tup_of
  obtain rfl : u = Value.ref l := ru
  obtain ⟨ho, hzl, its, rv, o', ho', hcl, n, hdt⟩ := (show ObjOk X.prog X.w H s.heap l (.frz o (.tup ws)) from I.hok l _ el)
  rw [ho] at ho'
  cases ho'
  obtain ⟨rs, ers, eits, hrs⟩ := recs (a := a) I.hok tw rv
  have hh : X.A.handled = none := I.ok.hd hc
  have hlr : rs.length = xs.length := by rw [← ers, List.length_map]
  have P := PairArg.tuple (prog := X.prog) (w := X.w) l its.toArray (fun j => ((rs[j]?).map (·.T)).getD 0) (rs.map fun r => (r.ku, r.nu))
  have ok : PlainSeq "tuple" s.heap l its.toArray ∧ PairItems s.heap its.toArray (fun j => ((rs[j]?).map (·.T)).getD 0) (rs.map fun r => (r.ku, r.nu)) := by
    refine ⟨⟨o, n, ho, hcl, od, hdt⟩, by rw [List.size_toArray, eits, List.length_map, List.length_map], fun j k v hj => ?_⟩
    rw [List.getElem?_map] at hj
    cases hr : rs[j]? with
    | none => rw [hr] at hj; cases hj
    | some r =>
      rw [hr] at hj
      cases hj
      refine ⟨?_, .inl ?_⟩
      · rw [eits, List.getElem?_toArray, List.getElem?_map, hr]
        show some (Value.ref r.T) = some (.ref (((rs[j]?).map (·.T)).getD 0))
        rw [hr]
        rfl
      · show s.heap.IsTuple (((rs[j]?).map (·.T)).getD 0) _
        rw [hr]
        exact (hrs r (List.mem_of_getElem? hr)).1
  have hsz : (rs.map fun r => (r.ku, r.nu)).length ≤ sizeLine := by rw [List.length_map, sizeLine_eq]; omega
  have hn : H s.heap.objs.size = none := I.hok.fresh (Nat.le_refl _)
  have lo : (s.heap.objs.size == sysModules) = false := beq_eq_false_iff_ne.mpr (Ne.symm (Nat.ne_of_lt I.big))
  by_cases en : a = .num
  · subst en
    have hk : ((rs.map fun r => ((Sum.inl (toI r.p.1) : L2.Key), r.nu)).map (·.1)).Nodup := by
      have e : (rs.map fun r => ((Sum.inl (toI r.p.1) : L2.Key), r.nu)).map (·.1) = (xs.map (·.1)).map (fun k => (Sum.inl (toI k) : L2.Key)) := by
        rw [← ers, List.map_map, List.map_map, List.map_map]
        rfl
      rw [e]
      exact List.pairwise_map.mpr (List.Pairwise.imp (fun h z => h (Sum.inl.inj z)) nd)
    refine call_dict_pairs (knd := mixKind X.prog X.w) (kvs := rs.map fun r => ((Sum.inl (toI r.p.1) : L2.Key), r.nu)) P hh ok ⟨by rw [List.length_map, List.length_map], fun i key v hi => ?_⟩ hsz fun h' tk hd' hk' => ?_
    · have hi' : (rs.map fun r => (r.ku, r.nu))[i]? = some (key, v) := hi
      rw [List.getElem?_map] at hi'
      cases hr : rs[i]? with
      | none => rw [hr] at hi'; cases hi'
      | some r =>
        rw [hr] at hi'
        cases hi'
        obtain ⟨_, _, tk, rk⟩ := hrs r (List.mem_of_getElem? hr)
        refine ⟨Sum.inl (toI r.p.1), by rw [List.getElem?_map, hr]; rfl, ?_⟩
        have ev := (show Tp H r.kv (.int (toI r.p.1)) from tk).int_of
        rw [ev] at rk
        obtain ⟨z, ez⟩ := rk
        rw [ez]
        exact mixKind_int X.prog X.w _ _
    · rw [merged_nd _ [] hk, List.nil_append] at hd'
      have kvr := kv_recs (P := X.prog) (w := X.w) hrs
      rw [ers] at kvr
      refine ⟨.ref s.heap.objs.size, _, I.laid (a := s.heap.objs.size) (o := .dK (xs.map kf)) (t' := tk) (fun b o e => hk' b o (fun z => nomatch z) e) (Nat.le_refl _) (dk_new (by rw [List.length_map, sizeLine_eq]; omega) lo kvr hd'), rfl, q _ _ hn (same_new hn _) ⟨upd_same, nd, len, pl, dp⟩⟩
  · have addr : ∀ r ∈ rs, r.ku = .ref (adr r.ku) ∧ Tp H (.ref (adr r.ku)) (enc a r.p.1) := fun r hr => by
      obtain ⟨_, _, tk, rk⟩ := hrs r hr
      obtain ⟨b, e1, e2⟩ := tup_key en pl tk rk
      rw [e1] at tk
      rw [e2]
      exact ⟨rfl, tk⟩
    have hk : ((rs.map fun r => (nk a r.p.1, adr r.ku, r.nu)).map (·.1)).Nodup := by
      have e : (rs.map fun r => (nk a r.p.1, adr r.ku, r.nu)).map (·.1) = (xs.map (·.1)).map (nk a) := by
        rw [← ers, List.map_map, List.map_map, List.map_map]
        rfl
      rw [e]
      exact List.pairwise_map.mpr (List.Pairwise.imp (fun h z => h (nk_inj z)) nd)
    refine call_dict_pairsH (knd := nestedKind X.prog X.w) (ps := rs.map fun r => (nk a r.p.1, adr r.ku, r.nu)) P hh (room_nk2 hu) ok ⟨by rw [List.length_map, List.length_map], fun i key v hi => ?_⟩ (fun h' kp x hx => ?_) hsz fun h' tk hd' hk' => ?_
    · have hi' : (rs.map fun r => (r.ku, r.nu))[i]? = some (key, v) := hi
      rw [List.getElem?_map] at hi'
      cases hr : rs[i]? with
      | none => rw [hr] at hi'; cases hi'
      | some r =>
        rw [hr] at hi'
        cases hi'
        exact ⟨nk a r.p.1, adr r.ku, by rw [List.getElem?_map, hr]; rfl, (addr r (List.mem_of_getElem? hr)).1⟩
    · obtain ⟨r, hr, rfl⟩ := List.mem_map.mp hx
      have k0 := key_is (X := X) I dp pl (addr r hr).2
      exact nestedKind_stays.stays (fun b o vs n e _ => kp b o (Nat.ne_of_lt (Heap.lt_size e)) (fun z => nomatch z) e) k0
    · rw [storedAll_nd _ [] hk, List.nil_append] at hd'
      obtain ⟨o2, es, ep, g1, g2, g3, g4, _, g5⟩ := hd'
      have raw : Raw X.prog X.w s.heap.objs.size (rs.map fun r => (nk a r.p.1, adr r.ku, r.p.2)) h' := ⟨lo, by rw [List.length_map]; omega, _, nrel_recs hrs, o2, es, ep, g1, g2, g3, g4, g5⟩
      have hb : BDt X.prog X.w (upd H s.heap.objs.size (ndO X.prog X.w s.heap.objs.size (rs.map fun r => (nk a r.p.1, adr r.ku, r.p.2)))) s.heap.objs.size a xs := by
        refine ⟨_, upd_same, by rw [← ers, List.map_map, List.map_map]; rfl, fun y hy => ?_⟩
        obtain ⟨r, hr, rfl⟩ := List.mem_map.mp hy
        refine Tp.mono (TK.same (same_new hn _)) ?_
        show Tp H (.ref (adr r.ku)) (nk a r.p.1).data
        rw [nk_data]
        exact (addr r hr).2
      refine ⟨.ref s.heap.objs.size, _, I.laid (a := s.heap.objs.size) (o := ndO X.prog X.w s.heap.objs.size (rs.map fun r => (nk a r.p.1, adr r.ku, r.p.2))) (t' := tk) (fun b o e => hk' b o (fun z => nomatch z) e) (Nat.le_refl _) (ndO_ok raw), rfl, q _ _ hn (same_new hn _) ⟨?_, nd, len, pl, dp⟩⟩
      cases a with
      | num => exact absurd rfl en
      | _ => exact hb
end
end Cw
/-! part CwE2 -/
set_option Elab.async false
set_option linter.all false
set_option maxRecDepth 100000
set_option maxHeartbeats 1000000
/-! Readings of statements over one base heap; tests that are known; < of values. -/
namespace Cw
open PySem PySem.Spec PyProof.Rows L2 PySem.SeqAt
section
variable {R : Hp → Hp → Prop} {K : PySem.W.Frag} {σ : L2.St} {H : Hp} {ta tb te : TE} {t u : TT} {d e : PyData} {v : V} {D : Ends} {ts tw tz : TS}
theorem evt_notT (h : EvT R t σ H true) : EvT R (tNot t) σ H false := evt_not h
theorem evt_notF (h : EvT R t σ H false) : EvT R (tNot t) σ H true := evt_not h
theorem evb_notT (h : EvB R te σ H true) : EvB R (tNotV te) σ H false := evb_not h
theorem evb_notF (h : EvB R te σ H false) : EvB R (tNotV te) σ H true := evb_not h
def EvS (R : Hp → Hp → Prop) (ts : TS) (D : Ends) (σ : L2.St) (H : Hp) : Prop := ∀ H1, R H H1 → ts D σ H1
theorem EvS.run (G : Grow R) (h : EvS R ts D σ H) : ts D σ H := h H (G.refl H)
theorem EvS.mono (G : Grow R) {H' : Hp} (g : R H H') (h : EvS R ts D σ H) : EvS R ts D σ H' := fun H1 a => h H1 (G.trans g a)
theorem es_ret (G : Grow R) (h : EvD R te σ H d) (k : ∀ v H1, R H H1 → Tp H1 v d → D.rt v H1) : EvS R (tRet te) D σ H := fun H1 g => h H1 g _ fun v H2 g2 t => k v H2 (G.trans g g2) t
theorem es_retB (G : Grow R) {b : Bool} (h : EvB R te σ H b) (k : ∀ H1, R H H1 → D.rt (.bl b) H1) : EvS R (tRet te) D σ H := fun H1 g => h H1 g _ fun H2 g2 => k H2 (G.trans g g2)
theorem es_retV (G : Grow R) (h : EvV R te σ H v) (k : ∀ H1, R H H1 → D.rt v H1) : EvS R (tRet te) D σ H := fun H1 g => h H1 g _ fun H2 g2 => k H2 (G.trans g g2)
theorem es_nx (k : ∀ H1, R H H1 → D.nx σ H1) : EvS R tNext D σ H := fun H1 g => k H1 g
theorem es_ifT (G : Grow R) (h : EvT R t σ H true) (k : EvS R ts { D with nx := tz D } σ H) : EvS R (tSeq (tIfS t ts tw) tz) D σ H := fun H1 g => h H1 g _ fun H2 g2 => iteT (k H2 (G.trans g g2))
theorem es_ifF (G : Grow R) (h : EvT R t σ H false) (k : EvS R tz D σ H) : EvS R (tSeq (tIfS t ts tNext) tz) D σ H := fun H1 g => h H1 g _ fun H2 g2 => iteF (k H2 (G.trans g g2))
theorem es_if (G : Grow R) {b : Bool} (h : EvT R t σ H b) (k1 : b = true → EvS R ts { D with nx := tz D } σ H) (k2 : b = false → EvS R tz D σ H) : EvS R (tSeq (tIfS t ts tNext) tz) D σ H := by
  cases b with
  | true => exact es_ifT G h (k1 rfl)
  | false => exact es_ifF G h (k2 rfl)
theorem es_ifF1 (G : Grow R) (h : EvT R t σ H false) (k : ∀ H1, R H H1 → D.nx σ H1) : EvS R (tIfS t ts tNext) D σ H := fun H1 g => h H1 g _ fun H2 g2 => iteF (k H2 (G.trans g g2))
theorem es_ifT1 (G : Grow R) (h : EvT R t σ H true) (k : EvS R ts D σ H) : EvS R (tIfS t ts tw) D σ H := fun H1 g => h H1 g _ fun H2 g2 => iteT (k H2 (G.trans g g2))
theorem es_set (G : Grow R) {i : Nat} (h : EvD R te σ H d) (k : ∀ v H1, R H H1 → Tp H1 v d → EvS R tz D (σ.set i (some v)) H1) : EvS R (tSeq (tAsg te (gName i)) tz) D σ H := fun H1 g => h H1 g _ fun v H2 g2 t => k v H2 (G.trans g g2) t H2 (G.refl H2)
theorem es_setB (G : Grow R) {i : Nat} {b : Bool} (h : EvB R te σ H b) (k : EvS R tz D (σ.set i (some (.bl b))) H) : EvS R (tSeq (tAsg te (gName i)) tz) D σ H := fun H1 g => h H1 g _ fun H2 g2 => k H2 (G.trans g g2)
theorem es_drop (G : Grow R) (h : EvV R te σ H v) (k : EvS R tz D σ H) : EvS R (tSeq (tDrop te) tz) D σ H := fun H1 g => h H1 g _ fun H2 g2 => k H2 (G.trans g g2)
theorem es_drop1 (G : Grow R) (h : EvV R te σ H v) (k : ∀ H1, R H H1 → D.nx σ H1) : EvS R (tDrop te) D σ H := fun H1 g => h H1 g _ fun H2 g2 => k H2 (G.trans g g2)
theorem es_two (G : Grow R) {i j : Nat} {e f : PyData} (h : EvD R te σ H (.tuple [e, f])) (k : ∀ v w H1, R H H1 → Tp H1 v e → Tp H1 w f → EvS R tz D ((σ.set i (some v)).set j (some w)) H1) :
    EvS R (tSeq (tAsg te (gTup K 2 (gCons (gName i) (gCons (gName j) gNil)))) tz) D σ H := fun H1 g => h H1 g _ fun v H2 g2 t => by
  obtain ⟨a, xs, rfl, ea, tt⟩ := t.tup_of
  obtain ⟨x, y, rfl, tx, ty⟩ := tp2 tt
  exact ⟨a, _, rfl, ea.sq, rfl, _, _, rfl, _, _, rfl, rfl, k x y H2 (G.trans g g2) tx ty H2 (G.refl H2)⟩
theorem ev_un (G : Grow R) {i : Int} (h : EvD R te σ H (.int i)) : EvD R (tUn (rU fun i => .int (-i)) te) σ H (.int (-i)) := fun H1 g Q q => h H1 g _ fun v H2 g2 t => ⟨i, t.int_of, q _ H2 g2 (.int _)⟩
/-- < of plain values -/
def rLtV : R2 := fun x y H Q => ∃ (k : Kd) (a b : Vl k), k.plain = true ∧ k.dep ≤ 8 ∧ Tp H x (enc k a) ∧ Tp H y (enc k b) ∧ Q (.bl (lt k a b)) H
theorem op_ltV {X : Cx} (hu : X.A.units + 64 < cLine) : OpR X (compareOp .Lt) rLtV := by
  intro pins s σ H x y v u Q I rx ry h
  obtain ⟨k, a, b, pl, dp, tx, ty, q⟩ := h
  obtain ⟨as, r1⟩ := Dp.reads I _ _ _ tx.dp rx
  obtain ⟨bs, r2⟩ := Dp.reads I _ _ _ ty.dp ry
  exact rcLt_v k a b X.A v u as bs pl r1 r2 (by omega) X.prog X.w _ _ ⟨.bl _, H, I, rfl, q⟩
theorem evb_ltV (G : Grow R) {k : Kd} {a b : Vl k} (pl : k.plain = true) (dp : k.dep ≤ 8) (h1 : EvD R ta σ H (enc k a)) (h2 : EvD R tb σ H (enc k b)) : EvB R (tOp rLtV ta tb) σ H (lt k a b) := fun H1 g Q q =>
  h1 H1 g _ fun v H2 g2 t1 => h2 H2 (G.trans g g2) _ fun w H3 g3 t2 => ⟨k, a, b, pl, dp, t1.mono (G.tk g3), t2, q H3 (G.trans g2 g3)⟩
theorem evb_gt (G : Grow R) {i j : Int} (h1 : EvD R ta σ H (.int i)) (h2 : EvD R tb σ H (.int j)) : EvB R (tOp (rI0 fun i j => .bl (decide (j < i))) ta tb) σ H (decide (j < i)) := evb_intop (g := fun i j => decide (j < i)) G h1 h2
/-- an item of a tuple, the place being a number of the text -/
theorem ev_ixV (G : Grow R) {ds : List PyData} {i : Nat} (ha : EvD R ta σ H (.tuple ds)) (hb : EvD R tb σ H (.int (i : Int))) (hi : ds[i]? = some d) : EvD R (tOp (rIxT K) ta tb) σ H d := ev_ix G ha hb hi
end
/-! kinds by tag and parts -/
def tag : Kd → Str
  | .unit => "unit"
  | .num => "num"
  | .pair _ _ => "pair"
  | .either _ _ => "either"
  | .bag _ => "bag"
def parts : Kd → List Kd
  | .unit => []
  | .num => []
  | .pair a b => [a, b]
  | .either a b => [a, b]
  | .bag a => [a]
theorem encK_eq : ∀ k : Kd, encK k = .tuple (.str (tag k) :: (parts k).map encK)
  | .unit => rfl
  | .num => rfl
  | .pair _ _ => rfl
  | .either _ _ => rfl
  | .bag _ => rfl
theorem ok_tag : ∀ k : Kd, PyData.strOk (tag k) = true
  | .unit => ok_unit
  | .num => ok_num
  | .pair _ _ => ok_pair
  | .either _ _ => ok_either
  | .bag _ => ok_bag
theorem parts_dep : ∀ {k p : Kd}, p ∈ parts k → p.dep + 1 ≤ k.dep
  | .unit, _, h => nomatch h
  | .num, _, h => nomatch h
  | .pair a b, p, h => by
    show p.dep + 1 ≤ max a.dep b.dep + 1
    rcases List.mem_cons.mp h with rfl | h
    · omega
    · rcases List.mem_cons.mp h with rfl | h
      · omega
      · cases h
  | .either a b, p, h => by
    show p.dep + 1 ≤ max a.dep b.dep + 1
    rcases List.mem_cons.mp h with rfl | h
    · omega
    · rcases List.mem_cons.mp h with rfl | h
      · omega
      · cases h
  | .bag a, p, h => by
    rcases List.mem_cons.mp h with rfl | h
    · exact Nat.le_refl _
    · cases h
theorem parts_len (k : Kd) : (parts k).length ≤ 2 := by cases k <;> first | exact Nat.le_refl 2 | exact (by decide : (0:Nat) ≤ 2) | exact (by decide : (1:Nat) ≤ 2)
theorem parts_ok : ∀ {k p : Kd}, k.ok = true → p ∈ parts k → p.ok = true
  | .unit, _, _, h => nomatch h
  | .num, _, _, h => nomatch h
  | .pair a b, p, ok, h => by
    obtain ⟨h1, h2⟩ := Bool.and_eq_true_iff.mp (show (a.ok && b.ok) = true from ok)
    rcases List.mem_cons.mp h with rfl | h
    · exact h1
    · rcases List.mem_cons.mp h with rfl | h
      · exact h2
      · cases h
  | .either a b, p, ok, h => by
    obtain ⟨h1, h2⟩ := Bool.and_eq_true_iff.mp (show (a.ok && b.ok) = true from ok)
    rcases List.mem_cons.mp h with rfl | h
    · exact h1
    · rcases List.mem_cons.mp h with rfl | h
      · exact h2
      · cases h
  | .bag a, p, ok, h => by
    rcases List.mem_cons.mp h with rfl | h
    · exact Kd.ok_of_plain ok
    · cases h
end Cw
namespace Cw
open PySem PySem.Spec PyProof.Rows L2
/-! KIND_SIZES.get(x, 0) -/
def tKGet (K : PySem.W.Frag) (d : Addr) (ty tx : TE) : TE := fun σ H Q => ty σ H fun y H2 => tx σ H2 fun z H3 => ∃ (x : Str) (u : Value) (v : V), y = .str x ∧ PySem.W.nsIn K d x = some (some u) ∧ RelV v u ∧ Q v H3
theorem pe_kget {X : Cx} {d : Addr} {x : Str} {p apos cpos : Pos} {e f : Expr} {ty tx : TE} (Z : KzAt X.K X.w d) (hm : X.mg x = some (.ref d)) (he : PE X e ty) (hf : PE X f tx) (hg : Gl X x := by rfl) (hd : (x == ("__debug__" : Str)) = false := by decide +kernel) (m : M2 X (.Name x p) "get" apos e f cpos := by exact ⟨rfl, rfl, rfl, rfl⟩) :
    PE X (.Call (.Attribute (.Name x p) "get" apos) [e, f] [] cpos) (tKGet X.K d ty tx) := by
  obtain ⟨es, n, D⟩ := Z.kd
  have ho : PE X (.Name x p) (tC (.ref d)) := pe_glob hg hm rfl hd
  refine ⟨fun pins s σ H Q I h => ?_⟩
  refine wpAny_Call_method m.base m.few m.line PySem.F.plainAttrs_dict PySem.F.slot_dict_get PySem.F.type_dict_get (thn (ho.run pins s σ H (fun x H1 => x = .ref d ∧ H1 = H) I ⟨rfl, rfl⟩) fun u s1 ⟨x, H1, I1, rx, ex, eh⟩ => ?_)
  subst ex eh
  obtain rfl : u = Value.ref d := rx
  have mo := PySem.W.mapOf_K (prog := X.prog) (w := X.w) I1.kIn D.at_ D.lit
  refine ⟨mo.typeIs, fun b q => ?_, ?_⟩
  · cases q
    exact ⟨_, I1.kIn d _ D.at_, rfl⟩
  · rw [m.trees]
    refine Calls.callWith_builtin rfl (Calls.evalArgs_plain (Calls.spliced_cons (thn (he.run pins s1 σ H1 _ I1 h) fun iv s2 ⟨y, H2, I2, ry, q2⟩ =>
      Calls.spliced_cons (thn (hf.run pins s2 σ H2 _ I2 q2) fun fv s3 ⟨z, H3, I3, rz, k, u0, v0, ey, en, rv, q3⟩ => Calls.spliced_nil ?_))))
    subst ey
    obtain ⟨t, rfl⟩ := ry
    have mo3 := PySem.W.mapOf_K (prog := X.prog) (w := X.w) I3.kIn D.at_ D.lit
    refine call_meetsIn PySem.F.slot_dict_get mo3.typeIs PySem.F.entry_dict_get (PySem.F.args_dict_get_3 _ _ _) (meets_dict_get_default (PySem.strKind X.prog X.w) d (PySem.strKind_is X.prog X.w k t) D.low fv) ⟨_, mo3, ?_⟩
    have ef := PySem.W.find_K D.at_ en
    show EP X pins σ Q ((findBy Value.isStrOf es k).getD fv) _
    rw [ef]
    exact ⟨v0, H3, I3.tok _, rv, q3⟩
theorem ev_kget {R : Hp → Hp → Prop} {K : PySem.W.Frag} {w : World} {σ : L2.St} {H : Hp} {ta tb : TE} {d : Addr} (G : Grow R) (Z : KzAt K w d) {x : Str} {n : Nat} {e : PyData} (h1 : EvD R ta σ H (.str x)) (h2 : EvD R tb σ H e) (hx : (x, n) ∈ sizes0) : EvD R (tKGet K d ta tb) σ H (.int n) := fun H1 g Q q =>
  h1 H1 g _ fun v H2 g2 t1 => h2 H2 (G.trans g g2) _ fun w H3 g3 t2 => by
    obtain ⟨u, hu, ru⟩ := Z.val _ hx
    exact ⟨x, u, .int n, t1.str_of, hu, ru, q _ H3 (G.trans g2 g3) (.int _)⟩
theorem tag_size (k : Kd) : (tag k, (parts k).length + 1) ∈ sizes0 := by
  cases k with
  | unit => exact List.mem_cons_self
  | num => exact List.mem_cons_of_mem _ List.mem_cons_self
  | pair a b => exact List.mem_cons_of_mem _ (List.mem_cons_of_mem _ List.mem_cons_self)
  | either a b => exact List.mem_cons_of_mem _ (List.mem_cons_of_mem _ (List.mem_cons_of_mem _ List.mem_cons_self))
  | bag a => exact List.mem_cons_of_mem _ (List.mem_cons_of_mem _ (List.mem_cons_of_mem _ (List.mem_cons_of_mem _ List.mem_cons_self)))
end Cw
/-! part CwTg -/
set_option Elab.async false
set_option linter.all false
set_option maxRecDepth 100000
set_option maxHeartbeats 1000000
/-! The words of kinds and sides, told apart; tests of them; calls with a default. -/
namespace Cw
open PySem PySem.Spec PyProof.Rows L2
theorem tq_unit_unit : decide (("unit" : Str) = "unit") = true := by decide +kernel
theorem tn_unit_unit : (!decide (("unit" : Str) = "unit")) = false := by rw [tq_unit_unit]; rfl
theorem tq_unit_num : decide (("unit" : Str) = "num") = false := by decide +kernel
theorem tn_unit_num : (!decide (("unit" : Str) = "num")) = true := by rw [tq_unit_num]; rfl
theorem tq_unit_pair : decide (("unit" : Str) = "pair") = false := by decide +kernel
theorem tn_unit_pair : (!decide (("unit" : Str) = "pair")) = true := by rw [tq_unit_pair]; rfl
theorem tq_unit_either : decide (("unit" : Str) = "either") = false := by decide +kernel
theorem tn_unit_either : (!decide (("unit" : Str) = "either")) = true := by rw [tq_unit_either]; rfl
theorem tq_unit_bag : decide (("unit" : Str) = "bag") = false := by decide +kernel
theorem tn_unit_bag : (!decide (("unit" : Str) = "bag")) = true := by rw [tq_unit_bag]; rfl
theorem tq_unit_fun : decide (("unit" : Str) = "fun") = false := by decide +kernel
theorem tn_unit_fun : (!decide (("unit" : Str) = "fun")) = true := by rw [tq_unit_fun]; rfl
theorem tq_unit_left : decide (("unit" : Str) = "left") = false := by decide +kernel
theorem tn_unit_left : (!decide (("unit" : Str) = "left")) = true := by rw [tq_unit_left]; rfl
theorem tq_unit_right : decide (("unit" : Str) = "right") = false := by decide +kernel
theorem tn_unit_right : (!decide (("unit" : Str) = "right")) = true := by rw [tq_unit_right]; rfl
theorem tq_num_unit : decide (("num" : Str) = "unit") = false := by decide +kernel
theorem tn_num_unit : (!decide (("num" : Str) = "unit")) = true := by rw [tq_num_unit]; rfl
theorem tq_num_num : decide (("num" : Str) = "num") = true := by decide +kernel
theorem tn_num_num : (!decide (("num" : Str) = "num")) = false := by rw [tq_num_num]; rfl
theorem tq_num_pair : decide (("num" : Str) = "pair") = false := by decide +kernel
theorem tn_num_pair : (!decide (("num" : Str) = "pair")) = true := by rw [tq_num_pair]; rfl
theorem tq_num_either : decide (("num" : Str) = "either") = false := by decide +kernel
theorem tn_num_either : (!decide (("num" : Str) = "either")) = true := by rw [tq_num_either]; rfl
theorem tq_num_bag : decide (("num" : Str) = "bag") = false := by decide +kernel
theorem tn_num_bag : (!decide (("num" : Str) = "bag")) = true := by rw [tq_num_bag]; rfl
theorem tq_num_fun : decide (("num" : Str) = "fun") = false := by decide +kernel
theorem tn_num_fun : (!decide (("num" : Str) = "fun")) = true := by rw [tq_num_fun]; rfl
theorem tq_num_left : decide (("num" : Str) = "left") = false := by decide +kernel
theorem tn_num_left : (!decide (("num" : Str) = "left")) = true := by rw [tq_num_left]; rfl
theorem tq_num_right : decide (("num" : Str) = "right") = false := by decide +kernel
theorem tn_num_right : (!decide (("num" : Str) = "right")) = true := by rw [tq_num_right]; rfl
theorem tq_pair_unit : decide (("pair" : Str) = "unit") = false := by decide +kernel
theorem tn_pair_unit : (!decide (("pair" : Str) = "unit")) = true := by rw [tq_pair_unit]; rfl
theorem tq_pair_num : decide (("pair" : Str) = "num") = false := by decide +kernel
theorem tn_pair_num : (!decide (("pair" : Str) = "num")) = true := by rw [tq_pair_num]; rfl
theorem tq_pair_pair : decide (("pair" : Str) = "pair") = true := by decide +kernel
theorem tn_pair_pair : (!decide (("pair" : Str) = "pair")) = false := by rw [tq_pair_pair]; rfl
theorem tq_pair_either : decide (("pair" : Str) = "either") = false := by decide +kernel
theorem tn_pair_either : (!decide (("pair" : Str) = "either")) = true := by rw [tq_pair_either]; rfl
theorem tq_pair_bag : decide (("pair" : Str) = "bag") = false := by decide +kernel
theorem tn_pair_bag : (!decide (("pair" : Str) = "bag")) = true := by rw [tq_pair_bag]; rfl
theorem tq_pair_fun : decide (("pair" : Str) = "fun") = false := by decide +kernel
theorem tn_pair_fun : (!decide (("pair" : Str) = "fun")) = true := by rw [tq_pair_fun]; rfl
theorem tq_pair_left : decide (("pair" : Str) = "left") = false := by decide +kernel
theorem tn_pair_left : (!decide (("pair" : Str) = "left")) = true := by rw [tq_pair_left]; rfl
theorem tq_pair_right : decide (("pair" : Str) = "right") = false := by decide +kernel
theorem tn_pair_right : (!decide (("pair" : Str) = "right")) = true := by rw [tq_pair_right]; rfl
theorem tq_either_unit : decide (("either" : Str) = "unit") = false := by decide +kernel
theorem tn_either_unit : (!decide (("either" : Str) = "unit")) = true := by rw [tq_either_unit]; rfl
theorem tq_either_num : decide (("either" : Str) = "num") = false := by decide +kernel
theorem tn_either_num : (!decide (("either" : Str) = "num")) = true := by rw [tq_either_num]; rfl
theorem tq_either_pair : decide (("either" : Str) = "pair") = false := by decide +kernel
theorem tn_either_pair : (!decide (("either" : Str) = "pair")) = true := by rw [tq_either_pair]; rfl
theorem tq_either_either : decide (("either" : Str) = "either") = true := by decide +kernel
theorem tn_either_either : (!decide (("either" : Str) = "either")) = false := by rw [tq_either_either]; rfl
theorem tq_either_bag : decide (("either" : Str) = "bag") = false := by decide +kernel
theorem tn_either_bag : (!decide (("either" : Str) = "bag")) = true := by rw [tq_either_bag]; rfl
theorem tq_either_fun : decide (("either" : Str) = "fun") = false := by decide +kernel
theorem tn_either_fun : (!decide (("either" : Str) = "fun")) = true := by rw [tq_either_fun]; rfl
theorem tq_either_left : decide (("either" : Str) = "left") = false := by decide +kernel
theorem tn_either_left : (!decide (("either" : Str) = "left")) = true := by rw [tq_either_left]; rfl
theorem tq_either_right : decide (("either" : Str) = "right") = false := by decide +kernel
theorem tn_either_right : (!decide (("either" : Str) = "right")) = true := by rw [tq_either_right]; rfl
theorem tq_bag_unit : decide (("bag" : Str) = "unit") = false := by decide +kernel
theorem tn_bag_unit : (!decide (("bag" : Str) = "unit")) = true := by rw [tq_bag_unit]; rfl
theorem tq_bag_num : decide (("bag" : Str) = "num") = false := by decide +kernel
theorem tn_bag_num : (!decide (("bag" : Str) = "num")) = true := by rw [tq_bag_num]; rfl
theorem tq_bag_pair : decide (("bag" : Str) = "pair") = false := by decide +kernel
theorem tn_bag_pair : (!decide (("bag" : Str) = "pair")) = true := by rw [tq_bag_pair]; rfl
theorem tq_bag_either : decide (("bag" : Str) = "either") = false := by decide +kernel
theorem tn_bag_either : (!decide (("bag" : Str) = "either")) = true := by rw [tq_bag_either]; rfl
theorem tq_bag_bag : decide (("bag" : Str) = "bag") = true := by decide +kernel
theorem tn_bag_bag : (!decide (("bag" : Str) = "bag")) = false := by rw [tq_bag_bag]; rfl
theorem tq_bag_fun : decide (("bag" : Str) = "fun") = false := by decide +kernel
theorem tn_bag_fun : (!decide (("bag" : Str) = "fun")) = true := by rw [tq_bag_fun]; rfl
theorem tq_bag_left : decide (("bag" : Str) = "left") = false := by decide +kernel
theorem tn_bag_left : (!decide (("bag" : Str) = "left")) = true := by rw [tq_bag_left]; rfl
theorem tq_bag_right : decide (("bag" : Str) = "right") = false := by decide +kernel
theorem tn_bag_right : (!decide (("bag" : Str) = "right")) = true := by rw [tq_bag_right]; rfl
theorem tq_fun_unit : decide (("fun" : Str) = "unit") = false := by decide +kernel
theorem tn_fun_unit : (!decide (("fun" : Str) = "unit")) = true := by rw [tq_fun_unit]; rfl
theorem tq_fun_num : decide (("fun" : Str) = "num") = false := by decide +kernel
theorem tn_fun_num : (!decide (("fun" : Str) = "num")) = true := by rw [tq_fun_num]; rfl
theorem tq_fun_pair : decide (("fun" : Str) = "pair") = false := by decide +kernel
theorem tn_fun_pair : (!decide (("fun" : Str) = "pair")) = true := by rw [tq_fun_pair]; rfl
theorem tq_fun_either : decide (("fun" : Str) = "either") = false := by decide +kernel
theorem tn_fun_either : (!decide (("fun" : Str) = "either")) = true := by rw [tq_fun_either]; rfl
theorem tq_fun_bag : decide (("fun" : Str) = "bag") = false := by decide +kernel
theorem tn_fun_bag : (!decide (("fun" : Str) = "bag")) = true := by rw [tq_fun_bag]; rfl
theorem tq_fun_fun : decide (("fun" : Str) = "fun") = true := by decide +kernel
theorem tn_fun_fun : (!decide (("fun" : Str) = "fun")) = false := by rw [tq_fun_fun]; rfl
theorem tq_fun_left : decide (("fun" : Str) = "left") = false := by decide +kernel
theorem tn_fun_left : (!decide (("fun" : Str) = "left")) = true := by rw [tq_fun_left]; rfl
theorem tq_fun_right : decide (("fun" : Str) = "right") = false := by decide +kernel
theorem tn_fun_right : (!decide (("fun" : Str) = "right")) = true := by rw [tq_fun_right]; rfl
theorem tq_left_unit : decide (("left" : Str) = "unit") = false := by decide +kernel
theorem tn_left_unit : (!decide (("left" : Str) = "unit")) = true := by rw [tq_left_unit]; rfl
theorem tq_left_num : decide (("left" : Str) = "num") = false := by decide +kernel
theorem tn_left_num : (!decide (("left" : Str) = "num")) = true := by rw [tq_left_num]; rfl
theorem tq_left_pair : decide (("left" : Str) = "pair") = false := by decide +kernel
theorem tn_left_pair : (!decide (("left" : Str) = "pair")) = true := by rw [tq_left_pair]; rfl
theorem tq_left_either : decide (("left" : Str) = "either") = false := by decide +kernel
theorem tn_left_either : (!decide (("left" : Str) = "either")) = true := by rw [tq_left_either]; rfl
theorem tq_left_bag : decide (("left" : Str) = "bag") = false := by decide +kernel
theorem tn_left_bag : (!decide (("left" : Str) = "bag")) = true := by rw [tq_left_bag]; rfl
theorem tq_left_fun : decide (("left" : Str) = "fun") = false := by decide +kernel
theorem tn_left_fun : (!decide (("left" : Str) = "fun")) = true := by rw [tq_left_fun]; rfl
theorem tq_left_left : decide (("left" : Str) = "left") = true := by decide +kernel
theorem tn_left_left : (!decide (("left" : Str) = "left")) = false := by rw [tq_left_left]; rfl
theorem tq_left_right : decide (("left" : Str) = "right") = false := by decide +kernel
theorem tn_left_right : (!decide (("left" : Str) = "right")) = true := by rw [tq_left_right]; rfl
theorem tq_right_unit : decide (("right" : Str) = "unit") = false := by decide +kernel
theorem tn_right_unit : (!decide (("right" : Str) = "unit")) = true := by rw [tq_right_unit]; rfl
theorem tq_right_num : decide (("right" : Str) = "num") = false := by decide +kernel
theorem tn_right_num : (!decide (("right" : Str) = "num")) = true := by rw [tq_right_num]; rfl
theorem tq_right_pair : decide (("right" : Str) = "pair") = false := by decide +kernel
theorem tn_right_pair : (!decide (("right" : Str) = "pair")) = true := by rw [tq_right_pair]; rfl
theorem tq_right_either : decide (("right" : Str) = "either") = false := by decide +kernel
theorem tn_right_either : (!decide (("right" : Str) = "either")) = true := by rw [tq_right_either]; rfl
theorem tq_right_bag : decide (("right" : Str) = "bag") = false := by decide +kernel
theorem tn_right_bag : (!decide (("right" : Str) = "bag")) = true := by rw [tq_right_bag]; rfl
theorem tq_right_fun : decide (("right" : Str) = "fun") = false := by decide +kernel
theorem tn_right_fun : (!decide (("right" : Str) = "fun")) = true := by rw [tq_right_fun]; rfl
theorem tq_right_left : decide (("right" : Str) = "left") = false := by decide +kernel
theorem tn_right_left : (!decide (("right" : Str) = "left")) = true := by rw [tq_right_left]; rfl
theorem tq_right_right : decide (("right" : Str) = "right") = true := by decide +kernel
theorem tn_right_right : (!decide (("right" : Str) = "right")) = false := by rw [tq_right_right]; rfl
section
variable {R : Hp → Hp → Prop} {K : PySem.W.Frag} {σ : L2.St} {H : Hp} {ta tb te : TE} {t u : TT} {d e : PyData} {v : V}
/-- kind[0] == y -/
theorem evt_k0 (G : Grow R) {k : Kd} {i : Nat} (tk : Tp H v (encK k)) (y : Str) (oy : PyData.strOk y = true := by decide +kernel) (hs : σ[i]? = some (some v) := by rfl) : EvT R (tTest (tOp (rEqD K) (tOp (rIxT K) (tVar i) (tC (.int 0))) (tC (.str y)))) σ H (decide (tag k = y)) := by
  rw [encK_eq] at tk
  exact evt_test (evb_eqS G (ev_ix0 G (ev_var G tk hs)) (ev_str G) (ok_tag k) oy)
theorem evt_k0n (G : Grow R) {k : Kd} {i : Nat} (tk : Tp H v (encK k)) (y : Str) (oy : PyData.strOk y = true := by decide +kernel) (hs : σ[i]? = some (some v) := by rfl) : EvT R (tTest (tOp (rNeD K) (tOp (rIxT K) (tVar i) (tC (.int 0))) (tC (.str y)))) σ H (!decide (tag k = y)) := by
  rw [encK_eq] at tk
  exact evt_test (evb_neS G (ev_ix0 G (ev_var G tk hs)) (ev_str G) (ok_tag k) oy)
/-- x == y of texts, as tests -/
theorem evt_eqS (G : Grow R) {x y : Str} {b : Bool} (ha : EvD R ta σ H (.str x)) (hb : EvD R tb σ H (.str y)) (ox : PyData.strOk x = true) (oy : PyData.strOk y = true) (e : decide (x = y) = b) : EvT R (tTest (tOp (rEqD K) ta tb)) σ H b := EvT.eq (evt_test (evb_eqS G ha hb ox oy)) e
theorem evt_neS (G : Grow R) {x y : Str} {b : Bool} (ha : EvD R ta σ H (.str x)) (hb : EvD R tb σ H (.str y)) (ox : PyData.strOk x = true) (oy : PyData.strOk y = true) (e : (!decide (x = y)) = b) : EvT R (tTest (tOp (rNeD K) ta tb)) σ H b := EvT.eq (evt_test (evb_neS G ha hb ox oy)) e
/-- len(t) of a tuple against a number -/
theorem evt_lenNe (G : Grow R) {ds : List PyData} {n : Int} {b : Bool} (ha : EvD R ta σ H (.tuple ds)) (hb : EvD R tb σ H (.int n)) (e : (!decide ((ds.length : Int) = n)) = b) : EvT R (tTest (tOp (rNeD K) (tCB (fun xs H Q => ∃ x n, xs = [x] ∧ LenV K x H n ∧ Q (.int n) H) (tCons ta tNil)) tb)) σ H b := EvT.eq (evt_test (evb_neI G (ev_len G ha) hb)) e
theorem evb_lenEq (G : Grow R) {ds : List PyData} {n : Int} {b : Bool} (ha : EvD R ta σ H (.tuple ds)) (hb : EvD R tb σ H (.int n)) (e : decide ((ds.length : Int) = n) = b) : EvB R (tOp (rEqD K) (tCB (fun xs H Q => ∃ x n, xs = [x] ∧ LenV K x H n ∧ Q (.int n) H) (tCons ta tNil)) tb) σ H b := EvB.to (evb_eqI G (ev_len G ha) hb) e
theorem evt_lenLt (G : Grow R) {ds : List PyData} {n : Int} {b : Bool} (ha : EvD R ta σ H (.tuple ds)) (hb : EvD R tb σ H (.int n)) (e : decide ((ds.length : Int) < n) = b) : EvT R (tTest (tOp (rI0 fun i j => .bl (decide (i < j))) (tCB (fun xs H Q => ∃ x n, xs = [x] ∧ LenV K x H n ∧ Q (.int n) H) (tCons ta tNil)) tb)) σ H b :=
  EvT.eq (evt_test (evb_intop (g := fun i j => decide (i < j)) G (ev_len G ha) hb)) e
/-- isinstance tests -/
theorem evt_isi (G : Grow R) {T : String} {b : Bool} (d : PyData) (ha : EvD R ta σ H d) (hk : kitB (tyD d) T = some b) : EvT R (tB (tCB (rIsi K) (tCons ta (tCons (tC (.ty T)) tNil)))) σ H b := evt_B (evb_isi G ha hk)
/-- a call with one default -/
theorem evb_callD (G : Grow R) {pre : List PyData → Bool → Prop} {b : Bool} {i : Int} {ta : TA} {ds : List PyData} (ha : EvA R ta σ H ds) (hp : pre (ds ++ [.int i]) b) : EvB R (tCall (spB pre) [.int i] E0 ta) σ H b := fun H1 g Q q =>
  ha H1 g _ fun vs H2 g2 t2 => ⟨ds ++ [.int i], b, t2.append (.cons (.int i) .nil), hp, fun H3 g3 => q H3 (G.trans g2 (G.same g3))⟩
end
/-- a def with one default: called with it or without -/
structure OkD (P : Program) (w : World) (K : PySem.W.Frag) (mg : Str → Option Value) (base : Heap) (x : Str) (ps : List Str) (k : Nat) (dv : V) (sp : Sp) : Prop where
  ex : ∃ fd, FnOk P w K mg base CX0 k (He.ga K x) fd ps sp ∧ (∃ ds, Vals [dv] ds ∧ Binds K fd ps ds) ∧ Binds K fd ps [] ∧ PySem.W.keepIn K (.ref (He.ga K x)) = true ∧ LkF K x fd
  gl : mg x = some (.ref (He.ga K x))
section
variable {P : Program} {w : World} {K : PySem.W.Frag} {mg : Str → Option Value} {base : Heap} {x : Str} {ps : List Str} {k : Nat} {sp : Sp} {dv : V}
theorem OkD.full (O : OkD P w K mg base x ps k dv sp) : OkF P w K mg base x ps k sp := by
  obtain ⟨fd, F, _, b, kp⟩ := O.ex
  exact ⟨⟨fd, F, b, kp⟩, O.gl⟩
theorem OkD.mono {j : Nat} (O : OkD P w K mg base x ps j dv sp) (h : j ≤ k) : OkD P w K mg base x ps k dv sp := by
  obtain ⟨fd, F, b0, b, kp⟩ := O.ex
  exact ⟨⟨fd, F.mono h, b0, b, kp⟩, O.gl⟩
theorem FX.okD {st : Stmt} {N : List Str} (F : FX K mg x st [dv]) (S : FnScope N ps (defScope st)) (len : ∀ vs H Q E, sp vs H Q E → vs.length = ps.length) (n : Nat) (hp : ps.length = n + 1)
    (h1 : ∀ (T : Addr) (kV doc pm : Value) (an : Option Addr) (cdv ct : Value) (us its : List Value), us.length = n → its.length = [dv].length →
      ∃ k, bindArgs (PySem.W.fnOf x x (defArgs st) (defBody st) (defScope st) (.ref T) kV doc pm an cdv ct) ⟨us, []⟩ = seqItems? (.ref T) >>= k ∧ k (some its.toArray) = pure (ps.zip (us ++ its.drop 0)))
    (h2 : ∀ (T : Addr) (kV doc pm : Value) (an : Option Addr) (cdv ct : Value) (us its : List Value), us.length = n + 1 → its.length = [dv].length →
      ∃ k, bindArgs (PySem.W.fnOf x x (defArgs st) (defBody st) (defScope st) (.ref T) kV doc pm an cdv ct) ⟨us, []⟩ = seqItems? (.ref T) >>= k ∧ k (some its.toArray) = pure (ps.zip (us ++ its.drop 1)))
    (body : ∀ (f : Addr) (cdv : Value) (A : Around) (outer : List Env) (s : Shared) (H : Hp) (vs : List V) (Q : VK) (E : XK), Room k (A.deeper (envOfC x (defScope st) s.heap.objs.size f cdv)) → sp vs H Q E →
      ∃ t, PSs (cxOf CX0 P w K mg base N x (defScope st) f cdv A outer s H E).nox (defBody st) t ∧ t { nx := fun _ H' => Q .non H', rt := Q } (start N vs) H) : OkD P w K mg base x ps (k + 1) dv sp := by
  obtain ⟨fd, F1⟩ := F.ex
  refine ⟨⟨fd, F1.ok S len fun cdv A outer s H vs Q E hr h => ?_, ?_, ?_, F1.kp, lkf_of F1⟩, F.gl⟩
  · obtain ⟨t, h1, h2⟩ := body (He.ga K x) cdv A outer s H vs Q E hr h
    exact ⟨t, h1.nox, h2⟩
  · exact F1.binds1 n 0 (fun z => nomatch z) (by rw [hp]; rfl) h1
  · obtain ⟨ds, r, b⟩ := F1.binds1 (n + 1) 1 (fun z => nomatch z) (by rw [hp]; rfl) h2
    cases r
    exact b
end
theorem pe_callD {X : Cx} {x : Str} {ps : List Str} {j k : Nat} {dv : V} {sp : Sp} {p pos : Pos} {e : Expr} {es : List Expr} {t : TA} (O : OkD X.prog X.w X.K X.mg X.base x ps j dv sp) (hr : Room k X.A) (hjk : j ≤ k := by omega) (hg : Gl X x := by rfl) (ha : PA X (e :: es) t)
    (hdb : (x == ("__debug__" : Str)) = false := by decide +kernel) (he : starEach (e :: es) X.env = (false, eval e X.env) :: starEach es X.env := by rfl) (hpl : (backTo pos (starEach es X.env)).any (·.1) = false := by rfl) :
    PE X (.Call (.Name x p) (e :: es) [] pos) (tCall sp [dv] E0 t) := by
  obtain ⟨fd, F, ⟨ds, r, b⟩, _, kp, _⟩ := O.ex
  exact pe_call F (hr.mono hjk) hg O.gl kp b r pass0 ha hdb he hpl
section
variable {X : Cx} {K : PySem.W.Frag} {P : Program} {w : World}
theorem ixT (h : X.K = K) : IxR X (rIxT K) := h ▸ ix_tup
theorem op_eqK (h : X.K = K) (hu : X.A.units + 64 < cLine) : OpR X (compareOp .Eq) (rEqD K) := h ▸ op_eqD hu
theorem op_neK (h : X.K = K) (hu : X.A.units + 64 < cLine) : OpR X (compareOp .NotEq) (rNeD K) := h ▸ op_neD hu
theorem pg_tupK {pos : Pos} {es : List Expr} {k : Nat} {t : TGs} {n : Nat} (hK : X.K = K) (hc : X.calm = true) (h : PGs X es t)
    (hn : (assignEach es X.env).length = n := by rfl) (hst : (assignEach es X.env).findIdx? (·.1) = none := by rfl) : PG X (.Tuple es k pos) (gTup K n t) := hK ▸ pg_tup hc h hn hst
theorem pe_ngetK {o i : Expr} {pos : Pos} {td ty : TE} (hP : X.prog = P) (hw : X.w = w) (hu : X.A.units + 64 < cLine) (ho : PE X o td) (hi : PE X i ty) (hs : NoSl i := by exact fun _ _ => rfl) : PE X (.Subscript o i pos) (tBItem P w td ty) := hP ▸ hw ▸ pe_nget hu ho hi hs
end
end Cw
/-! part CwBg -/
set_option Elab.async false
set_option linter.all false
set_option maxRecDepth 100000
set_option maxHeartbeats 1000000
/-! Bags in the making: sorted keys, the loop that counts, the row of pairs that is read out. -/
namespace Cw
open PySem PySem.Spec PyProof.Rows L2
section
variable {A : Type} [DecidableEq A] {lt : A → A → Bool}
def one1 (k : A) : A × Int := (k, 1)
def keysOf (lt : A → A → Bool) (ks : List A) : List A := (norm lt (ks.map one1)).map (·.1)
theorem cnt_perm {l m : List (A × Int)} (p : l.Perm m) (z : A) : cnt l z = cnt m z := by
  induction p with
  | nil => rfl
  | cons x _ ih => rw [cnt_cons, cnt_cons, ih]
  | swap x y l => rw [cnt_cons, cnt_cons, cnt_cons, cnt_cons]; omega
  | trans _ _ h1 h2 => rw [h1, h2]
theorem canon_one (O : SOrd lt) : ∀ {zs : List A}, zs.Nodup → zs.Pairwise (fun x y => lt y x = false) → Canon lt (zs.map one1) := fun {zs} nd pw => by
  refine ⟨List.pairwise_map.mpr (List.Pairwise.imp (fun {x y} (h : lt y x = false ∧ x ≠ y) => ?_) (List.Pairwise.and pw nd)), fun p hp => ?_⟩
  · rcases O.tri x y h.2 with q | q
    · exact q
    · rw [h.1] at q; cases q
  · obtain ⟨k, _, rfl⟩ := List.mem_map.mp hp
    exact Int.one_ne_zero
theorem keys_uniq (O : SOrd lt) {zs ks : List A} (p : zs.Perm ks) (nd : ks.Nodup) (pw : zs.Pairwise (fun x y => lt y x = false)) : zs = keysOf lt ks := by
  have h := norm_of O (canon_one O (p.nodup_iff.mpr nd) pw) (cnt_perm (p.map one1))
  unfold keysOf
  rw [← h, List.map_map]
  exact (List.map_id zs).symm
def outB (xs : List (A × Int)) (k : A) : Option (A × Int) := if cnt xs k = 0 then none else some (k, cnt xs k)
theorem cnt_out1 {xs : List (A × Int)} (z : A) : ∀ {ks : List A}, ks.Nodup → cnt (ks.filterMap (outB xs)) z = if z ∈ ks then cnt xs z else 0
  | [], _ => rfl
  | k :: ks, nd => by
    obtain ⟨h1, h2⟩ := List.nodup_cons.mp nd
    have ih := cnt_out1 (xs := xs) z h2
    by_cases e : cnt xs k = 0
    · rw [List.filterMap_cons_none (by unfold outB; rw [if_pos e]), ih]
      by_cases q : z = k
      · rw [if_neg (by rw [q]; exact h1), if_pos (by rw [q]; exact List.mem_cons_self), q, e]
      · by_cases m : z ∈ ks
        · rw [if_pos m, if_pos (List.mem_cons_of_mem _ m)]
        · rw [if_neg m, if_neg (fun w => by rcases List.mem_cons.mp w with w | w; exact q w; exact m w)]
    · rw [List.filterMap_cons_some (show outB xs k = some (k, cnt xs k) by unfold outB; rw [if_neg e]), cnt_cons, ih]
      by_cases q : k = z
      · rw [if_pos q, if_neg (by rw [← q]; exact h1), if_pos (by rw [q]; exact List.mem_cons_self), q]
        show cnt xs z + 0 = _
        omega
      · rw [if_neg q]
        by_cases m : z ∈ ks
        · rw [if_pos m, if_pos (List.mem_cons_of_mem _ m)]
          omega
        · rw [if_neg m, if_neg (fun w => by rcases List.mem_cons.mp w with w | w; exact q w.symm; exact m w)]
          rfl
theorem pairwise_fm {α β : Type} {R : α → α → Prop} {S : β → β → Prop} {f : α → Option β} (h : ∀ x y u v, f x = some u → f y = some v → R x y → S u v) : ∀ {l : List α}, l.Pairwise R → (l.filterMap f).Pairwise S
  | [], _ => List.Pairwise.nil
  | x :: l, p => by
    obtain ⟨p1, p2⟩ := List.pairwise_cons.mp p
    cases q : f x with
    | none => rw [List.filterMap_cons_none q]; exact pairwise_fm h p2
    | some u =>
      rw [List.filterMap_cons_some q]
      refine List.pairwise_cons.mpr ⟨fun v hv => ?_, pairwise_fm h p2⟩
      obtain ⟨y, hy, e⟩ := List.mem_filterMap.mp hv
      exact h x y u v q e (p1 y hy)
theorem canon_keys (O : SOrd lt) {ks : List A} : (keysOf lt ks).Pairwise (fun x y => lt x y = true) := List.pairwise_map.mpr (canon_norm O _).1
theorem keys_nodup (O : SOrd lt) {ks : List A} : (keysOf lt ks).Nodup := List.Pairwise.imp (fun h e => by rw [e, O.irr] at h; cases h) (canon_keys O)
/-- the pairs that are read out are the canonical bag -/
theorem out_norm (O : SOrd lt) {xs : List (A × Int)} {zs : List A} (p : zs.Perm (xs.map (·.1))) (nd : zs.Nodup) (pw : zs.Pairwise (fun x y => lt x y = true)) : zs.filterMap (outB xs) = norm lt xs := by
  refine norm_of O ⟨?_, fun q hq => ?_⟩ fun z => ?_
  · refine pairwise_fm (fun x y u v hu hv h => ?_) pw
    unfold outB at hu hv
    split at hu
    · cases hu
    · split at hv
      · cases hv
      · cases hu
        cases hv
        exact h
  · obtain ⟨k, _, e⟩ := List.mem_filterMap.mp hq
    unfold outB at e
    split at e
    · cases e
    · rename_i h
      cases e
      exact h
  · rw [cnt_out1 z nd]
    split
    · rfl
    · rename_i h
      exact (cnt_out fun q hq e => h (p.mem_iff.mpr (List.mem_map.mpr ⟨q, hq, e⟩))).symm
end
section
variable {P : Program} {w : World} {K : PySem.W.Frag} {R : Hp → Hp → Prop} {σ : L2.St} {H H' : Hp} {d : Addr} {a : Kd} {xs : List (Vl a × Int)}
theorem BD.same (B : BD P w H d a xs) (s : Same H H') : BD P w H' d a xs := by
  refine ⟨?_, B.nd, B.len, B.pl, B.dp⟩
  have h := B.k
  have ht : BDt P w H d a xs → BDt P w H' d a xs := fun ⟨ys, e, ej, hh⟩ => ⟨ys, s _ _ e, ej, fun y hy => (hh y hy).mono (TK.same s)⟩
  cases a with
  | num => exact s _ _ h
  | unit => exact ht h
  | pair a b => exact ht h
  | either a b => exact ht h
  | bag a => exact ht h
/-- d[k] -/
theorem ev_bitem {i : Nat} {ty : TE} {k : Vl a} (B : BD P w H d a xs) (h : EvD Same ty σ H (enc a k)) (hk : k ∈ xs.map (·.1)) (hs : σ[i]? = some (some (.ref d)) := by rfl) : EvD Same (tBItem P w (tVar i) ty) σ H (.int (cnt xs k)) := fun H1 g Q q =>
  ⟨.ref d, hs, h H1 g _ fun v H2 g2 t => ⟨d, a, xs, k, rfl, B.same (g.trans g2), t, hk, q _ H2 g2 (.int _)⟩⟩
/-- sorted(d) -/
theorem evl_sorted {i : Nat} (B : BD P w H d a xs) (h64 : xs.length < 64) (hs : σ[i]? = some (some (.ref d)) := by rfl) : EvL Same (tCB (rSortB P w) (tCons (tVar i) tNil)) σ H ((keysOf (lt a) (xs.map (·.1))).map (enc a)) := fun H1 g Q q =>
  ⟨.ref d, hs, d, a, xs, rfl, B.same g, h64, fun p us zs H2 hn s e t pz pw => by
    have ez := keys_uniq (ltO B.pl) pz B.nd pw
    rw [← ez] at q
    exact q p us H2 s e t⟩
/-- the row of pairs that is read out of the dict: [(k, d[k]) for k in sorted(d) if d[k] != 0] -/
theorem evl_out {i j : Nat} (hij : i ≠ j) (hj : j < σ.length) (B : BD P w H d a xs) (h64 : xs.length < 64) (hs : σ[i]? = some (some (.ref d))) :
    EvL Same (tLc (iList K (tCB (rSortB P w) (tCons (tVar i) tNil))) (gName j) (tTest (tOp (rNeD K) (tBItem P w (tVar i) (tVar j)) (tC (.int 0)))) (tTupN (tCons (tVar j) (tCons (tBItem P w (tVar i) (tVar j)) tNil))) [j]) σ H ((norm (lt a) xs).map (encP a)) := by
  have O := ltO B.pl
  have kp : (keysOf (lt a) (xs.map (·.1))).Perm (xs.map (·.1)) := by
    refine (List.perm_ext_iff_of_nodup (keys_nodup O) B.nd).mpr fun z => ?_
    have hc := cnt_norm (lt := lt a) ((xs.map (·.1)).map one1) z
    have h1 := canon_norm O ((xs.map (·.1)).map one1)
    constructor
    · intro hz
      obtain ⟨q, hq, e⟩ := List.mem_map.mp hz
      obtain ⟨r, hr, e2⟩ := norm_mem hq
      obtain ⟨k, hk, rfl⟩ := List.mem_map.mp hr
      rw [← e, ← e2]
      exact hk
    · intro hz
      cases q : decide (z ∈ keysOf (lt a) (xs.map (·.1))) with
      | true => exact of_decide_eq_true q
      | false =>
        have hn := of_decide_eq_false q
        rw [cnt_out (fun p hp e => hn (List.mem_map.mpr ⟨p, hp, e⟩))] at hc
        exfalso
        have : ∀ ks : List (Vl a), z ∈ ks → 0 < cnt (ks.map one1) z := fun ks => by
          have pos : ∀ ks : List (Vl a), 0 ≤ cnt (ks.map one1) z := fun ks => by
            induction ks with
            | nil => exact Int.le_refl 0
            | cons k ks ih =>
              rw [List.map_cons, cnt_cons]
              have : (0 : Int) ≤ if (one1 k).1 = z then (one1 k).2 else 0 := by
                split
                · exact (by decide : (0 : Int) ≤ 1)
                · exact Int.le_refl 0
              omega
          induction ks with
          | nil => exact fun h => nomatch h
          | cons k ks ih =>
            intro h
            rw [List.map_cons, cnt_cons]
            have p0 := pos ks
            by_cases e : k = z
            · rw [if_pos (show (one1 k).1 = z from e)]
              show (0 : Int) < 1 + cnt (ks.map one1) z
              omega
            · rw [if_neg (show ¬ (one1 k).1 = z from e)]
              rcases List.mem_cons.mp h with h | h
              · exact absurd h.symm e
              · have := ih h
                omega
        have := this _ hz
        omega
  have ef : ((keysOf (lt a) (xs.map (·.1))).filterMap fun k => (outB xs k).map (encP a)) = (norm (lt a) xs).map (encP a) := by
    rw [← out_norm O kp (keys_nodup O) (canon_keys O), List.map_filterMap]
  rw [← ef]
  have hl : (keysOf (lt a) (xs.map (·.1))).length ≤ 1000 := by
    rw [kp.length_eq, List.length_map]
    exact B.len
  refine evl_lst growS (c := enc a) (evl_sorted B h64 hs) hl fun k hk Hc v g t => ?_
  have hk' : k ∈ xs.map (·.1) := kp.mem_iff.mp hk
  have e1 : ((wipe σ [j]).set j (some v))[i]? = some (some (.ref d)) := by
    rw [List.getElem?_set_ne (Ne.symm hij), show wipe σ [j] = σ.set j none from rfl, List.getElem?_set_ne (Ne.symm hij)]
    exact hs
  have e2 : ((wipe σ [j]).set j (some v))[j]? = some (some v) := List.getElem?_set_self (by rw [wipe_length]; exact hj)
  have ek : EvD Same (tVar j) ((wipe σ [j]).set j (some v)) Hc (enc a k) := ev_var growS t e2
  refine ⟨(wipe σ [j]).set j (some v), wipe1, fun _ h => h, !decide (cnt xs k = 0), evt_test (evb_neI growS (ev_bitem (B.same g) ek hk' e1) (ev_int growS)), fun h => ?_, fun h => ?_⟩
  · have : cnt xs k = 0 := by simpa using h
    unfold outB
    rw [if_pos this]
    rfl
  · have : ¬ cnt xs k = 0 := by simpa using h
    refine ⟨encP a (k, cnt xs k), by unfold outB; rw [if_neg this]; rfl, ?_⟩
    exact ev_tup growS (eva_two growS ek (ev_bitem (B.same g) ek hk' e1)) (show 2 ≤ 1000 by decide)
/-- the loop that counts -/
theorem for_bag {J : It} {ps zs0 : List (Vl a × Int)} {D : Ends} {it iv im : Nat} {H1 : Hp} (wk : Walk (fun H v p => Tp H v (encP a p)) J H ps) (hn : H d = none) (s1 : Same H H1) (B1 : BD P w H1 d a zs0) (hs : σ[it]? = some (some (.ref d)))
    (n1 : iv ≠ it) (n2 : im ≠ it) (n3 : iv ≠ im) (l1 : iv < σ.length) (l2 : im < σ.length) (hl : zs0.length + ps.length < 64)
    (hd : ∀ σ' Hc zs, σ'.length = σ.length → σ'[it]? = some (some (.ref d)) → Same H Hc → BD P w Hc d a zs → (∀ z, cnt zs z = cnt zs0 z + cnt ps z) → zs.length < 64 → D.nx σ' Hc) :
    ∃ W : Nat → Nat → L2.St → Hp → Prop, (∃ m, W 0 m σ H1) ∧ ∀ i m σ H, W i m σ H →
      (J.stop i H ∧ D.nx σ H) ∨ (J.go i H ∧ ∃ N : L2.St → Hp → Prop, (∀ σ' H', N σ' H' → ∃ m', m' < m ∧ W (i + 1) m' σ' H') ∧ ∀ x H', J.yld i H x H' → gTup K 2 (gCons (gName iv) (gCons (gName im) gNil)) x σ H' fun σ2 H2 =>
        sBPut P w (tVar it) (tVar iv) (tOp (rI0 fun i j => .int (i + j)) (tBGet P w (tVar it) (tVar iv) (tC (.int 0))) (tVar im)) { D with nx := N, ct := N, bk := D.nx } σ2 H2) := by
  refine ⟨fun i m σ' Hc => m = ps.length - i ∧ i ≤ ps.length ∧ σ'.length = σ.length ∧ σ'[it]? = some (some (.ref d)) ∧ Same H Hc ∧ ∃ zs, BD P w Hc d a zs ∧ (∀ z, cnt zs z = cnt zs0 z + cnt (ps.take i) z) ∧ zs.length ≤ zs0.length + i,
    ⟨ps.length, by simp, Nat.zero_le _, rfl, hs, s1, zs0, B1, fun z => by rw [List.take_zero, cnt_nil]; omega, Nat.le_refl _⟩, ?_⟩
  rintro i m σ' Hc ⟨rfl, hi, hlen, hs', s', zs, B, hc, hz⟩
  obtain ⟨w1, w2⟩ := wk Hc s'
  by_cases hlt : i < ps.length
  · obtain ⟨go, yl⟩ := w2 i ps[i] (List.getElem?_eq_getElem hlt)
    refine .inr ⟨go, fun σ' Hc => σ'.length = σ.length ∧ σ'[it]? = some (some (.ref d)) ∧ Same H Hc ∧ ∃ zs, BD P w Hc d a zs ∧ (∀ z, cnt zs z = cnt zs0 z + cnt (ps.take (i + 1)) z) ∧ zs.length ≤ zs0.length + (i + 1), fun σ2 H2 q => ⟨ps.length - (i + 1), by omega, rfl, hlt, q⟩, fun x H' y => ?_⟩
    obtain ⟨sx, tx⟩ := yl x H' y
    obtain ⟨b, us, rfl, fb, tu⟩ := (show Tp H' x (.tuple [enc a ps[i].1, .int ps[i].2]) from tx).tup_of
    obtain ⟨kv, nv, rfl, tk, tn⟩ := tp2 tu
    obtain rfl := tn.int_of
    refine ⟨b, _, rfl, fb.sq, rfl, _, _, rfl, _, _, rfl, rfl, ?_⟩
    have f1 : ((σ'.set iv (some kv)).set im (some (.int ps[i].2)))[it]? = some (some (.ref d)) := by rw [List.getElem?_set_ne n2, List.getElem?_set_ne n1]; exact hs'
    have f2 : ((σ'.set iv (some kv)).set im (some (.int ps[i].2)))[iv]? = some (some kv) := by rw [List.getElem?_set_ne (Ne.symm n3)]; exact List.getElem?_set_self (by omega)
    have f3 : ((σ'.set iv (some kv)).set im (some (.int ps[i].2)))[im]? = some (some (.int ps[i].2)) := List.getElem?_set_self (by rw [List.length_set]; omega)
    have B' := B.same sx
    refine ⟨.ref d, f1, d, rfl, ⟨a, zs, B'⟩, kv, f2, a, zs, ps[i].1, B', tk, rfl, _, f3, cnt zs ps[i].1, ps[i].2, rfl, rfl, ?_⟩
    refine ⟨.ref d, f1, kv, f2, d, a, zs, ps[i].1, _, rfl, B', tk, rfl, by omega, fun H2 k2 B2 => ?_⟩
    refine ⟨by rw [List.length_set, List.length_set]; exact hlen, f1, fun b o e => ?_, _, B2, fun z => ?_, ?_⟩
    · exact k2 b o (fun q => by rw [q, hn] at e; cases e) (sx _ _ (s' _ _ e))
    · rw [cnt_setB B.nd, List.take_succ_eq_append_getElem hlt, cnt_append, cnt_cons, cnt_nil, hc z]
      by_cases e : ps[i].1 = z
      · rw [if_pos e, if_pos e, e, hc z]
        omega
      · rw [if_neg e, if_neg e]
        omega
    · have := len_setB (xs := zs) (k := ps[i].1) (n := cnt zs ps[i].1 + ps[i].2)
      omega
  · have e : i = ps.length := by omega
    subst e
    rw [List.take_length] at hc
    exact .inl ⟨w1 _ (Nat.le_refl _), hd σ' Hc zs hlen hs' s' B hc (by omega)⟩
end
end Cw
/-! part CwA1 -/
set_option Elab.async false
set_option linter.all false
set_option maxRecDepth 100000
set_option maxHeartbeats 1000000
/-! The small defs. -/
namespace Cw
open PySem PySem.Spec PyProof.Rows L2
section
variable {P : Program} {w : World} {K : PySem.W.Frag} {mg : Str → Option Value} {base : Heap}
/-! is_whole -/
def preWhole : List PyData → Bool → Prop := fun ds b => ∃ i : Int, ds = [.int i] ∧ b = true
theorem sc_is_whole : FnScope ["value"] ["value"] (defScope s_is_whole) := ⟨rfl, rfl, rfl, by decide +kernel, rfl, by decide +kernel, by decide +kernel⟩
theorem ok_is_whole (Z : Fs w K mg) : OkF P w K mg base "is_whole" ["value"] 1 (spB preWhole) := by
  have sc := sc_is_whole
  refine Z.f_is_whole.ok sc (spB_len fun ds b ⟨i, e, _⟩ => by rw [e]; rfl) (fun _ _ _ _ _ _ us hl => match us, hl with | [_], _ => rfl) fun f cdv A outer s H vs Q E hr h => ?_
  refine ⟨_, (pss_one (ps_ret (pe_and (pe_isi "int" (pv 0) Z.zisinstance Z.zint) (pe_one (pe_not (pe_isi "bool" (pv 0) Z.zisinstance Z.zbool)))))), ?_⟩
  obtain ⟨ds, b, t, ⟨i, rfl, rfl⟩, q⟩ := h
  obtain ⟨v, rfl, tv⟩ := tp1 t
  have G := growS
  exact EvS.run G (es_retB G (evb_andT G (evb_isi G (ev_var G tv) kit_ii) (evb_notF (evb_isi G (ev_var G tv) kit_ib))) q)
/-! is_side -/
def preSide : List PyData → Bool → Prop := fun ds b => ∃ x d y, ds = [.tuple [.str x, d], .str y] ∧ PyData.strOk x = true ∧ PyData.strOk y = true ∧ b = decide (x = y)
theorem sc_is_side : FnScope ["value", "side"] ["value", "side"] (defScope s_is_side) := ⟨rfl, rfl, rfl, by decide +kernel, rfl, by decide +kernel, by decide +kernel⟩
theorem ok_is_side (Z : Fs w K mg) : OkF P w K mg base "is_side" ["value", "side"] 1 (spB preSide) := by
  have sc := sc_is_side
  refine Z.f_is_side.ok sc (spB_len fun ds b ⟨x, d, y, e, _⟩ => by rw [e]; rfl) (fun _ _ _ _ _ _ us hl => match us, hl with | [_, _], _ => rfl) fun f cdv A outer s H vs Q E hr h => ?_
  refine ⟨_, (pss_one (ps_ret (pe_and (pe_isi "tuple" (pv 0) Z.zisinstance Z.ztuple) (pe_and (pe_cmpR (op_eqD hr.units) (pe_callB call_len rfl Z.zlen PySem.boot_len (pa_cons (pv 0) pa_nil)) pe_int (nomark _)) (pe_and (pe_isi "str" (pe_ix ix_tup (pv 0) pe_int (fun _ _ => rfl)) Z.zisinstance Z.zstr) (pe_one (pe_cmpR (op_eqD hr.units) (pe_ix ix_tup (pv 0) pe_int (fun _ _ => rfl)) (pv 1) (nomark _)))))))), ?_⟩
  obtain ⟨ds, b, t, ⟨x, d, y, rfl, ox, oy, rfl⟩, q⟩ := h
  obtain ⟨v, u, rfl, tv, tu⟩ := tp2 t
  have G := growS
  exact EvS.run G (es_retB G (evb_andT G (evb_isi G (ev_var G tv) kit_tt) (evb_andT G (EvB.to (evb_eqI G (ev_len G (ev_var G tv)) (ev_int G)) (decide_eq_true rfl)) (evb_andT G (evb_isiD G (d := .str x) "str" (ev_ix0 G (ev_var G tv)) kit_ss) (evb_eqS G (ev_ix0 G (ev_var G tv)) (ev_var G tu) ox oy)))) q)
/-! part_kind -/
def prePart : List PyData → PyData → Prop := fun ds d => ∃ x a b s, ds = [.tuple [x, encK a, encK b], .str s] ∧ ((s = "left" ∧ d = encK a) ∨ (s = "right" ∧ d = encK b))
theorem sc_part_kind : FnScope ["kind", "side"] ["kind", "side"] (defScope s_part_kind) := ⟨rfl, rfl, rfl, by decide +kernel, rfl, by decide +kernel, by decide +kernel⟩
theorem ok_part_kind (Z : Fs w K mg) : OkF P w K mg base "part_kind" ["kind", "side"] 1 (spD prePart) := by
  have sc := sc_part_kind
  refine Z.f_part_kind.ok sc (spD_len fun ds b ⟨x, a, b, s, e, _⟩ => by rw [e]; rfl) (fun _ _ _ _ _ _ us hl => match us, hl with | [_, _], _ => rfl) fun f cdv A outer s H vs Q E hr h => ?_
  refine ⟨_, (pss_one (ps_ret (pe_ifExp (pt_cmpR (op_eqD hr.units) (pv 1) pe_str (nomark _)) (pe_ix ix_tup (pv 0) pe_int (fun _ _ => rfl)) (pe_ix ix_tup (pv 0) pe_int (fun _ _ => rfl))))), ?_⟩
  obtain ⟨ds, d, t, ⟨x, a, b, s, rfl, c⟩, q⟩ := h
  obtain ⟨v, u, rfl, tv, tu⟩ := tp2 t
  have G := growS
  rcases c with ⟨rfl, rfl⟩ | ⟨rfl, rfl⟩
  · exact EvS.run G (es_ret G (ev_ifT G (EvT.eq (evt_test (evb_eqS G (ev_var G tu) (ev_str G))) (decide_eq_true rfl)) (ev_ix1 G (ev_var G tv))) q)
  · exact EvS.run G (es_ret G (ev_ifF G (EvT.eq (evt_test (evb_eqS G (ev_var G tu) (ev_str G))) (by decide +kernel)) (ev_ix2 G (ev_var G tv))) q)
/-! is_plain -/
def preIsPlain (n : Nat) : List PyData → Bool → Prop := fun ds b => ∃ k : Kd, k.dep ≤ n ∧ ds = [encK k] ∧ b = k.plain
def noB (x : Str) : Bool := [("bag" : Str), "fun"].any fun y => decide (y = x)
theorem noB_u : noB "unit" = false := by decide +kernel
theorem noB_n : noB "num" = false := by decide +kernel
theorem noB_p : noB "pair" = false := by decide +kernel
theorem noB_e : noB "either" = false := by decide +kernel
theorem noB_b : noB "bag" = true := by decide +kernel
theorem plain_eq : ∀ k : Kd, ((!noB (tag k)) && (parts k).all Kd.plain) = k.plain
  | .unit => by show ((!noB "unit") && true) = true; rw [noB_u]; rfl
  | .num => by show ((!noB "num") && true) = true; rw [noB_n]; rfl
  | .pair a b => by show ((!noB "pair") && (a.plain && (b.plain && true))) = (a.plain && b.plain); rw [noB_p, Bool.and_true]; rfl
  | .either a b => by show ((!noB "either") && (a.plain && (b.plain && true))) = (a.plain && b.plain); rw [noB_e, Bool.and_true]; rfl
  | .bag a => by show ((!noB "bag") && _) = false; rw [noB_b]; rfl
theorem sc_is_plain : FnScope ["kind", "each"] ["kind"] (defScope s_is_plain) := ⟨rfl, rfl, rfl, by decide +kernel, rfl, by decide +kernel, by decide +kernel⟩
theorem ok_is_plain (Z : Fs w K mg) : ∀ n, OkF P w K mg base "is_plain" ["kind"] (n + 1) (spB (preIsPlain n))
  | 0 => Z.f_is_plain.ok sc_is_plain (spB_len fun ds b ⟨k, _, e, _⟩ => by rw [e]; rfl) (fun _ _ _ _ _ _ us hl => match us, hl with | [_], _ => rfl) fun f cdv A outer s H vs Q E hr h => by
    obtain ⟨ds, b, t, ⟨k, hd, _⟩, q⟩ := h
    have := k.dep_pos
    exfalso
    omega
  | n + 1 => by
    have sc := sc_is_plain
    have O_is_plain := ok_is_plain Z n
    refine Z.f_is_plain.ok sc (spB_len fun ds b ⟨k, _, e, _⟩ => by rw [e]; rfl) (fun _ _ _ _ _ _ us hl => match us, hl with | [_], _ => rfl) fun f cdv A outer s H vs Q E hr h => ?_
    refine ⟨_, (pss_one (ps_ret (pe_and (pe_cmpR op_notIn_seq (pe_ix ix_tup (pv 0) pe_int (fun _ _ => rfl)) (pe_tupN (pa_cons pe_str (pa_cons pe_str pa_nil))) rfl) (pe_one (pe_callB (cr_all rfl) rfl Z.zall boot_all (pa_cons (pe_lc rfl sc.nd (pi_tup (pe_slice sl_tupA (pv 0) (po_some pe_int) po_none)) (own := [("each", 1)]) (blkOk_by rfl) (fun _ _ _ _ _ => (pg_name sc.nd (i := 1) rfl (by first | exact Or.inl rfl | exact Or.inr rfl))) (fun _ _ _ _ _ => pts_nil) (fun _ _ _ _ _ => (pe_callO O_is_plain hr (ha := (pa_cons (pv 1) pa_nil))))) pa_nil)))))), ?_⟩
    obtain ⟨ds, b, t, ⟨k, hd, rfl, rfl⟩, q⟩ := h
    obtain ⟨v, rfl, tv⟩ := tp1 t
    rw [encK_eq] at tv
    have G := growS
    refine EvS.run G (es_retB G (b := k.plain) ?_ q)
    rw [← plain_eq]
    refine evb_and G (evb_notin G (x := tag k) (ys := ["bag", "fun"]) (ev_ix0 G (ev_var G tv)) (ev_tup G (eva_two G (ev_str G) (ev_str G)))) fun _ => ?_
    refine evb_all G (c := encK) (ks := parts k) (evq_tail G (ev_var G tv)) (by have := parts_len k; omega) fun p hp Hc v' g t' => ?_
    exact evb_call growS (eva_one growS (ev_var growS t')) ⟨p, by have := parts_dep hp; omega, rfl, rfl⟩
end
end Cw
/-! part CwA2 -/
set_option Elab.async false
set_option linter.all false
set_option maxRecDepth 100000
set_option maxHeartbeats 1000000
/-! What stands, what is valued. -/
namespace Cw
open PySem PySem.Spec PyProof.Rows L2
/-- a value that the text holds to be one -/
structure Gd (k : Kd) (v : Vl k) : Prop where
  ok : Okv k v
  sm : Small (10 ^ 15) 30 k v
section
variable {P : Program} {w : World} {K : PySem.W.Frag} {mg : Str → Option Value} {base : Heap}
/-! is_data -/
def preIsData (n : Nat) : List PyData → Bool → Prop := fun ds b => ∃ k : Kd, k.dep ≤ n ∧ ds = [encK k] ∧ b = true
theorem data_ne : ∀ k : Kd, (!decide (tag k = "fun")) = true
  | .unit => tn_unit_fun
  | .num => tn_num_fun
  | .pair _ _ => tn_pair_fun
  | .either _ _ => tn_either_fun
  | .bag _ => tn_bag_fun
theorem sc_is_data : FnScope ["kind", "each"] ["kind"] (defScope s_is_data) := ⟨rfl, rfl, rfl, by decide +kernel, rfl, by decide +kernel, by decide +kernel⟩
theorem ok_is_data (Z : Fs w K mg) : ∀ n, OkF P w K mg base "is_data" ["kind"] (n + 1) (spB (preIsData n))
  | 0 => Z.f_is_data.ok sc_is_data (spB_len fun ds b ⟨k, _, e, _⟩ => by rw [e]; rfl) (fun _ _ _ _ _ _ us hl => match us, hl with | [_], _ => rfl) fun f cdv A outer s H vs Q E hr h => by
    obtain ⟨ds, b, t, ⟨k, hd, _⟩, q⟩ := h
    have := k.dep_pos
    exfalso
    omega
  | n + 1 => by
    have sc := sc_is_data
    have O_is_data := ok_is_data Z n
    refine Z.f_is_data.ok sc (spB_len fun ds b ⟨k, _, e, _⟩ => by rw [e]; rfl) (fun _ _ _ _ _ _ us hl => match us, hl with | [_], _ => rfl) fun f cdv A outer s H vs Q E hr h => ?_
    refine ⟨_, (pss_one (ps_ret (pe_and (pe_cmpR (op_neD hr.units) (pe_ix ix_tup (pv 0) pe_int (fun _ _ => rfl)) pe_str (nomark _)) (pe_one (pe_callB (cr_all rfl) rfl Z.zall boot_all (pa_cons (pe_lc rfl sc.nd (pi_tup (pe_slice sl_tupA (pv 0) (po_some pe_int) po_none)) (own := [("each", 1)]) (blkOk_by rfl) (fun _ _ _ _ _ => (pg_name sc.nd (i := 1) rfl (by first | exact Or.inl rfl | exact Or.inr rfl))) (fun _ _ _ _ _ => pts_nil) (fun _ _ _ _ _ => (pe_callO O_is_data hr (ha := (pa_cons (pv 1) pa_nil))))) pa_nil)))))), ?_⟩
    obtain ⟨ds, b, t, ⟨k, hd, rfl, rfl⟩, q⟩ := h
    obtain ⟨v, rfl, tv⟩ := tp1 t
    rw [encK_eq] at tv
    have G := growS
    refine EvS.run G (es_retB G (b := true) ?_ q)
    refine evb_andT G (EvB.to (evb_neS G (x := tag k) (ev_ix0 G (ev_var G tv)) (ev_str G) (ok_tag k) ok_fun) (data_ne k)) ?_
    refine EvB.to (evb_all G (c := encK) (ks := parts k) (p := fun _ => true) (evq_tail G (ev_var G tv)) (by have := parts_len k; omega) fun p hp Hc v' g t' => ?_) (List.all_eq_true.mpr fun _ _ => rfl)
    exact evb_call growS (eva_one growS (ev_var growS t')) ⟨p, by have := parts_dep hp; omega, rfl, rfl⟩
/-! is_kinded -/
def preKinded (n : Nat) : List PyData → Bool → Prop := fun ds b => ∃ (k : Kd) (m : Nat), k.ok = true ∧ k.dep ≤ n ∧ n ≤ m ∧ k.dep ≤ 30 ∧ ds = [encK k, .int m] ∧ b = true
theorem kinded_end {k : Kd} (h : k.ok = true) : (!decide (tag k = "bag")) = true ∨ ∃ a, k = .bag a ∧ a.plain = true := by
  cases k with
  | bag a => exact .inr ⟨a, rfl, h⟩
  | unit => exact .inl tn_unit_bag
  | num => exact .inl tn_num_bag
  | pair _ _ => exact .inl tn_pair_bag
  | either _ _ => exact .inl tn_either_bag
theorem sc_is_kinded : FnScope ["value", "deep", "each"] ["value", "deep"] (defScope s_is_kinded) := ⟨rfl, rfl, rfl, by decide +kernel, rfl, by decide +kernel, by decide +kernel⟩
theorem ok_is_kinded (Z : Fs w K mg) : ∀ n, OkD P w K mg base "is_kinded" ["value", "deep"] (n + 2) (.int 100) (spB (preKinded n))
  | 0 => Z.f_is_kinded.okD sc_is_kinded (spB_len fun ds b ⟨k, _, _, _, _, _, e, _⟩ => by rw [e]; rfl) 1 rfl (fun _ _ _ _ _ _ _ us its h1 h2 => match us, h1, its, h2 with | [_], _, [_], _ => ⟨_, rfl, rfl⟩) (fun _ _ _ _ _ _ _ us its h1 h2 => match us, h1, its, h2 with | [_, _], _, [_], _ => ⟨_, rfl, rfl⟩) fun f cdv A outer s H vs Q E hr h => by
    obtain ⟨ds, b, t, ⟨k, m, _, hd, _⟩, q⟩ := h
    have := k.dep_pos
    exfalso
    omega
  | n + 1 => by
    have sc := sc_is_kinded
    have O_is_kinded := (ok_is_kinded Z n).full
    have O_is_plain := ok_is_plain (P := P) (base := base) Z (n + 1)
    obtain ⟨dk, Zm, Zk⟩ := Z.kz
    refine Z.f_is_kinded.okD sc (spB_len fun ds b ⟨k, _, _, _, _, _, e, _⟩ => by rw [e]; rfl) 1 rfl (fun _ _ _ _ _ _ _ us its h1 h2 => match us, h1, its, h2 with | [_], _, [_], _ => ⟨_, rfl, rfl⟩) (fun _ _ _ _ _ _ _ us its h1 h2 => match us, h1, its, h2 with | [_, _], _, [_], _ => ⟨_, rfl, rfl⟩) fun f cdv A outer s H vs Q E hr h => ?_
    refine ⟨_, (pss_cons (ps_if (PW.pt (pw_or (pt_cmpR (op_eqD hr.units) (pv 1) pe_int (nomark _)) (pw_or (pt_not (pt_val (pe_isi "tuple" (pv 0) Z.zisinstance Z.ztuple))) (pw_or (pt_cmpR (op_eqD hr.units) (pv 0) (pe_tupN pa_nil) (nomark _)) (pw_or1 (pt_not (pt_val (pe_isi "str" (pe_ix ix_tup (pv 0) pe_int (fun _ _ => rfl)) Z.zisinstance Z.zstr)))))))) (pss_one (ps_ret pe_bl)) pss_nil) (pss_cons (ps_if (PW.pt (pw_or (pt_cmpR (op_neD hr.units) (pe_callB call_len rfl Z.zlen PySem.boot_len (pa_cons (pv 0) pa_nil)) (pe_kget Zk Zm (pe_ix ix_tup (pv 0) pe_int (fun _ _ => rfl)) pe_int) (nomark _)) (pw_or1 (pt_not (pt_val (pe_callB (cr_all rfl) rfl Z.zall boot_all (pa_cons (pe_lc rfl sc.nd (pi_tup (pe_slice sl_tupA (pv 0) (po_some pe_int) po_none)) (own := [("each", 2)]) (blkOk_by rfl) (fun _ _ _ _ _ => (pg_name sc.nd (i := 2) rfl (by first | exact Or.inl rfl | exact Or.inr rfl))) (fun _ _ _ _ _ => pts_nil) (fun _ _ _ _ _ => (pe_callO O_is_kinded hr (ha := (pa_cons (pv 2) (pa_cons (pe_op op_sub (pv 1) pe_int) pa_nil)))))) pa_nil))))))) (pss_one (ps_ret pe_bl)) pss_nil) (pss_one (ps_ret (pe_or (pe_cmpR (op_neD hr.units) (pe_ix ix_tup (pv 0) pe_int (fun _ _ => rfl)) pe_str (nomark _)) (pe_one (pe_callO O_is_plain hr (ha := (pa_cons (pe_ix ix_tup (pv 0) pe_int (fun _ _ => rfl)) pa_nil))))))))), ?_⟩
    obtain ⟨ds, b, t, ⟨k, m, ok, hd, hm, h30, rfl, rfl⟩, q⟩ := h
    obtain ⟨v, u, rfl, tv, tu⟩ := tp2 t
    have tk := tv
    rw [encK_eq] at tv
    have G := growS
    refine EvS.run G (es_ifF G (evt_orF G (EvT.eq (evt_test (evb_eqI G (ev_var G tu) (ev_int G))) (decide_eq_false (by omega))) (evt_orF G (evt_notT (evt_isi G (.tuple _) (ev_var G tv) kit_tt)) (evt_orF G (EvT.eq (evt_test (evb_eq G (ev_var G tv) (ev_tup G (eva_nil G)) (by rw [← encK_eq]; exact shp_encK h30) shp_nil)) ?_) (evt_notT (evt_isi G (.str (tag k)) (ev_ix0 G (ev_var G tv)) kit_ss))))) ?_)
    · rw [eqv_tup]
      simp only [PyData.eqvAll]
    · refine es_ifF G (evt_orF G (evt_lenNe G (n := ((parts k).length + 1 : Nat)) (ev_var G tv) ?_ ?_) (evt_notT (evt_B (EvB.to (evb_all G (c := encK) (ks := parts k) (p := fun _ => true) (evq_tail G (ev_var G tv)) (by have := parts_len k; omega) fun p hp Hc v' g t' => ?_) (List.all_eq_true.mpr fun _ _ => rfl))))) ?_
      · exact ev_kget G Zk (ev_ix0 G (ev_var G tv)) (ev_int G) (tag_size k)
      · rw [decide_eq_true (by rw [List.length_cons, List.length_map])]
        rfl
      · refine evb_call growS (eva_two growS (ev_var growS t') (ev_intop (g := fun i j => i - j) growS (ev_var growS (tu.mono (TK.same g))) (ev_int growS))) ⟨p, m - 1, parts_ok ok hp, by have := parts_dep hp; omega, by omega, by have := parts_dep hp; omega, ?_, rfl⟩
        rw [show ((m : Int) - 1) = ((m - 1 : Nat) : Int) from by omega]
      · rcases kinded_end ok with e | ⟨a, rfl, pl⟩
        · exact es_retB G (evb_orT (EvB.to (evb_neS G (ev_ix0 G (ev_var G tv)) (ev_str G) (ok_tag k) ok_bag) e)) q
        · refine es_retB G (evb_orF G (EvB.to (evb_neS G (ev_ix0 G (ev_var G tv)) (ev_str G) ok_bag ok_bag) tn_bag_bag) (EvB.to (evb_call G (pre := preIsPlain (n + 1)) (b := a.plain) (eva_one G (ev_ix1 G (ev_var G tv))) ⟨a, ?_, rfl, rfl⟩) pl)) q
          have : (Kd.bag a).dep = a.dep + 1 := rfl
          omega
end
end Cw
/-! part CwA3 -/
set_option Elab.async false
set_option linter.all false
set_option maxRecDepth 100000
set_option maxHeartbeats 1000000
/-! is_valued and what it leans on. -/
namespace Cw
open PySem PySem.Spec PyProof.Rows L2
section
variable {P : Program} {w : World} {K : PySem.W.Frag} {mg : Str → Option Value} {base : Heap}
def preValued (n : Nat) : List PyData → Bool → Prop := fun ds b => ∃ (k : Kd) (v : Vl k), k.ok = true ∧ k.dep ≤ n ∧ k.dep ≤ 8 ∧ Gd k v ∧ ds = [encK k, enc k v] ∧ b = true
def preCounted (n : Nat) : List PyData → Bool → Prop := fun ds b => ∃ (a : Kd) (p : Vl a × Int), a.plain = true ∧ a.dep ≤ n ∧ a.dep ≤ 8 ∧ Small (10 ^ 15) 30 a p.1 ∧ ds = [encK a, encP a p] ∧ b = true
def preCounts (n : Nat) : List PyData → Bool → Prop := fun ds b => ∃ (a : Kd) (xs : List (Vl a × Int)), a.plain = true ∧ a.dep ≤ n ∧ a.dep ≤ 8 ∧ Gd (.bag a) xs ∧ ds = [encK a, enc (.bag a) xs] ∧ b = true
theorem zip_canon {a : Kd} : ∀ {xs : List (Vl a × Int)}, xs.Pairwise (fun p q => lt a p.1 q.1 = true) → ((xs.zip (xs.drop 1)).all fun d => lt a d.1.1 d.2.1) = true
  | [], _ => rfl
  | [_], _ => rfl
  | p :: q :: r, h => by
    obtain ⟨h1, h2⟩ := List.pairwise_cons.mp h
    show ((p, q) :: (q :: r).zip ((q :: r).drop 1)).all (fun d => lt a d.1.1 d.2.1) = true
    rw [List.all_cons, h1 q List.mem_cons_self, zip_canon h2]
    rfl
def sd : List (L2.Key × V) := [(Sum.inr "left", .int 1), (Sum.inr "right", .int 2)]
theorem sd_l : valV (mergeK [] sd) (Sum.inr "left") = some (.int 1) := by decide +kernel
theorem sd_r : valV (mergeK [] sd) (Sum.inr "right") = some (.int 2) := by decide +kernel
theorem ev_sides {σ : L2.St} {H : Hp} {ty : TE} {x : Str} {n : Int} (h : EvD Same ty σ H (.str x)) (hx : valV (mergeK [] sd) (Sum.inr x) = some (.int n)) :
    EvD Same (tDGet2 (tDisp [(tC (.str "left"), tC (.int 1)), (tC (.str "right"), tC (.int 2))]) ty (tC (.int 0))) σ H (.int n) := fun H1 g Q q => fun p hp => by
  refine ⟨upd_same, sd, rfl, by decide, p, rfl, .inl ⟨_, .inl upd_same⟩, ?_⟩
  have s0 : Same H1 (upd (upd H1 p (.dK [])) p (.dK (mergeK [] sd))) := by rw [upd_upd]; exact same_new hp _
  refine h _ (g.trans s0) _ fun v H2 g2 t => ?_
  refine ⟨some (.int n), .inl ⟨mergeK [] sd, Sum.inr x, .inl (g2 _ _ upd_same), t.str_of, hx.symm⟩, q _ _ (s0.trans g2) (.int n)⟩
theorem sc_is_counted : FnScope ["kind", "value"] ["kind", "value"] (defScope s_is_counted) := ⟨rfl, rfl, rfl, by decide +kernel, rfl, by decide +kernel, by decide +kernel⟩
theorem ok_is_counted (Z : Fs w K mg) (n : Nat) (O_is_valued : OkF P w K mg base "is_valued" ["kind", "value"] (3 * n + 3) (spB (preValued n))) : OkF P w K mg base "is_counted" ["kind", "value"] (3 * n + 4) (spB (preCounted n)) := by
  have sc := sc_is_counted
  have O_is_whole := ok_is_whole (P := P) (base := base) Z
  refine Z.f_is_counted.ok sc (spB_len fun ds b ⟨a, p, _, _, _, _, e, _⟩ => by rw [e]; rfl) (fun _ _ _ _ _ _ us hl => match us, hl with | [_, _], _ => rfl) fun f cdv A outer s H vs Q E hr h => ?_
  refine ⟨_, (pss_one (ps_ret (pe_and (pe_isi "tuple" (pv 1) Z.zisinstance Z.ztuple) (pe_and (pe_cmpR (op_eqD hr.units) (pe_callB call_len rfl Z.zlen PySem.boot_len (pa_cons (pv 1) pa_nil)) pe_int (nomark _)) (pe_and (pe_callO O_is_valued hr (ha := (pa_cons (pv 0) (pa_cons (pe_ix ix_tup (pv 1) pe_int (fun _ _ => rfl)) pa_nil)))) (pe_one (pe_callO O_is_whole hr (ha := (pa_cons (pe_ix ix_tup (pv 1) pe_int (fun _ _ => rfl)) pa_nil))))))))), ?_⟩
  obtain ⟨ds, b, t, ⟨a, p, pl, hd, h8, sm, rfl, rfl⟩, q⟩ := h
  obtain ⟨v, u, rfl, tv, tu⟩ := tp2 t
  have G := growS
  refine EvS.run G (es_retB G (evb_andT G (evb_isiD G (d := encP a p) "tuple" (ev_var G tu) kit_tt) (evb_andT G (evb_lenEq G (ds := [enc a p.1, .int p.2]) (n := 2) (ev_var G tu) (ev_int G) rfl) (evb_andT G ?_ ?_))) q)
  · exact evb_call G (pre := preValued n) (eva_two G (ev_var G tv) (ev_ix0 G (ds := [enc a p.1, .int p.2]) (ev_var G tu))) ⟨a, p.1, Kd.ok_of_plain pl, hd, h8, ⟨okv_plain pl _, sm⟩, rfl, rfl⟩
  · exact evb_call G (pre := preWhole) (eva_one G (ev_ix1 G (ds := [enc a p.1, .int p.2]) (ev_var G tu))) ⟨p.2, rfl, rfl⟩
theorem sc_are_counted : FnScope ["kind", "value", "each", "one", "two"] ["kind", "value"] (defScope s_are_counted) := ⟨rfl, rfl, rfl, by decide +kernel, rfl, by decide +kernel, by decide +kernel⟩
theorem ok_are_counted (Z : Fs w K mg) (n : Nat) (O_is_counted : OkF P w K mg base "is_counted" ["kind", "value"] (3 * n + 4) (spB (preCounted n))) : OkF P w K mg base "are_counted" ["kind", "value"] (3 * n + 5) (spB (preCounts n)) := by
  have sc := sc_are_counted
  refine Z.f_are_counted.ok sc (spB_len fun ds b ⟨a, p, _, _, _, _, e, _⟩ => by rw [e]; rfl) (fun _ _ _ _ _ _ us hl => match us, hl with | [_, _], _ => rfl) fun f cdv A outer s H vs Q E hr h => ?_
  refine ⟨_, (pss_cons (ps_if (pt_not (pt_val (pe_callB (cr_all rfl) rfl Z.zall boot_all (pa_cons (pe_lc rfl sc.nd (pi_tup (pv 1)) (own := [("each", 2)]) (blkOk_by rfl) (fun _ _ _ _ _ => (pg_name sc.nd (i := 2) rfl (by first | exact Or.inl rfl | exact Or.inr rfl))) (fun _ _ _ _ _ => pts_nil) (fun _ _ _ _ _ => (pe_and (pe_callO O_is_counted hr (ha := (pa_cons (pv 0) (pa_cons (pv 2) pa_nil)))) (pe_one (pe_cmpR (op_neK (K := K) rfl hr.units) (pe_ix (ixT (K := K) rfl) (pv 2) pe_int (fun _ _ => rfl)) pe_int (nomark _)))))) pa_nil)))) (pss_one (ps_ret pe_bl)) pss_nil) (pss_one (ps_ret (pe_callB (cr_all rfl) rfl Z.zall boot_all (pa_cons (pe_lc rfl sc.nd (RZ.pi_zipA rfl Z.zzip (pa_cons (pv 1) (pa_cons (pe_slice sl_tupA (pv 1) (po_some pe_int) po_none) pa_nil))) (own := [("one", 3), ("two", 4)]) (blkOk_by rfl) (fun _ _ _ _ _ => (pg_tupK (K := K) (n := 2) rfl rfl (pgs_cons (pg_name sc.nd (i := 3) rfl (by first | exact Or.inl rfl | exact Or.inr rfl)) (pgs_cons (pg_name sc.nd (i := 4) rfl (by first | exact Or.inl rfl | exact Or.inr rfl)) pgs_nil)))) (fun _ _ _ _ _ => pts_nil) (fun _ _ _ _ _ => (pe_cmpR (op_ltV hr.units) (pe_ix (ixT (K := K) rfl) (pv 3) pe_int (fun _ _ => rfl)) (pe_ix (ixT (K := K) rfl) (pv 4) pe_int (fun _ _ => rfl)) (nomark _)))) pa_nil))))), ?_⟩
  obtain ⟨ds, b, t, ⟨a, xs, pl, hd, h8, gd, rfl, rfl⟩, q⟩ := h
  obtain ⟨v, u, rfl, tv, tu⟩ := tp2 t
  have G := growS
  have cn : Canon (lt a) xs := gd.ok
  have hl : xs.length ≤ 30 := gd.sm.1
  have tu' : Tp H u (.tuple (xs.map (encP a))) := tu
  refine EvS.run G (es_ifF G (evt_notT (evt_B (EvB.to (evb_all G (c := encP a) (ks := xs) (p := fun _ => true) (EvD.q (ev_var G tu')) (by omega) fun p hp Hc v' g t' => ?_) (List.all_eq_true.mpr fun _ _ => rfl)))) (es_retB G ?_ q))
  · refine evb_andT growS (evb_call growS (pre := preCounted n) (b := true) (eva_two growS (ev_var growS (tv.mono (TK.same g))) (ev_var growS t')) ⟨a, p, pl, hd, h8, gd.sm.2.2 p hp, rfl, rfl⟩) ?_
    refine EvB.to (evb_neI growS (ev_ix1 growS (ds := [enc a p.1, .int p.2]) (ev_var growS t')) (ev_int growS)) ?_
    rw [decide_eq_false (cn.2 p hp)]
    rfl
  · refine EvB.to (evb_allZ G (c := encP a) (e := encP a) (ks := xs) (ls := xs.drop 1) (p := fun d1 d2 => lt a d1.1 d2.1) (by decide) (ev_var G tu') (by have := evq_tail (K := K) G (ev_var (R := Same) (σ := start ["kind", "value", "each", "one", "two"] [v, u]) (i := 1) G tu'); rw [← List.map_drop] at this; exact this) (by omega) fun d hd Hc v1 w1 g t1 t2 => ?_) (zip_canon cn.1)
    exact evb_ltV growS pl h8 (ev_ix0 growS (ds := [enc a d.1.1, .int d.1.2]) (ev_var growS t1)) (ev_ix0 growS (ds := [enc a d.2.1, .int d.2.2]) (ev_var growS t2))
theorem sc_is_valued : FnScope ["kind", "value", "side"] ["kind", "value"] (defScope s_is_valued) := ⟨rfl, rfl, rfl, by decide +kernel, rfl, by decide +kernel, by decide +kernel⟩
theorem ok_is_valued (Z : Fs w K mg) : ∀ n, OkF P w K mg base "is_valued" ["kind", "value"] (3 * n + 3) (spB (preValued n))
  | 0 => Z.f_is_valued.ok (k := 2) sc_is_valued (spB_len fun ds b ⟨k, v, _, _, _, _, e, _⟩ => by rw [e]; rfl) (fun _ _ _ _ _ _ us hl => match us, hl with | [_, _], _ => rfl) fun f cdv A outer s H vs Q E hr h => by
    obtain ⟨ds, b, t, ⟨k, v, _, hd, _⟩, q⟩ := h
    have := k.dep_pos
    exfalso
    omega
  | n + 1 => by
    have sc := sc_is_valued
    have O_is_whole := ok_is_whole (P := P) (base := base) Z
    have O_is_valued := ok_is_valued Z n
    have O_are_counted := ok_are_counted (P := P) (base := base) Z n (ok_is_counted Z n O_is_valued)
    refine Z.f_is_valued.ok (k := 3 * n + 5) sc (spB_len fun ds b ⟨k, v, _, _, _, _, e, _⟩ => by rw [e]; rfl) (fun _ _ _ _ _ _ us hl => match us, hl with | [_, _], _ => rfl) fun f cdv A outer s H vs Q E hr h => ?_
    refine ⟨_, (pss_cons (ps_if (pt_cmpR (op_eqD hr.units) (pe_ix ix_tup (pv 0) pe_int (fun _ _ => rfl)) pe_str (nomark _)) (pss_one (ps_ret (pe_callO O_is_whole hr (ha := (pa_cons (pv 1) pa_nil))))) pss_nil) (pss_cons (ps_if (PW.pt (pw_or (pt_cmpR (op_eqD hr.units) (pe_ix ix_tup (pv 0) pe_int (fun _ _ => rfl)) pe_str (nomark _)) (pw_or1 (pt_not (pt_val (pe_isi "tuple" (pv 1) Z.zisinstance Z.ztuple)))))) (pss_one (ps_ret pe_bl)) pss_nil) (pss_cons (ps_if (pt_cmpR (op_eqD hr.units) (pe_ix ix_tup (pv 0) pe_int (fun _ _ => rfl)) pe_str (nomark _)) (pss_one (ps_ret (pe_cmpR (op_eqD hr.units) (pv 1) (pe_tupN pa_nil) (nomark _)))) pss_nil) (pss_cons (ps_if (pt_cmpR (op_eqD hr.units) (pe_ix ix_tup (pv 0) pe_int (fun _ _ => rfl)) pe_str (nomark _)) (pss_one (ps_ret (pe_callO O_are_counted hr (ha := (pa_cons (pe_ix ix_tup (pv 0) pe_int (fun _ _ => rfl)) (pa_cons (pv 1) pa_nil)))))) pss_nil) (pss_cons (ps_if (PW.pt (pw_or (pt_cmpR op_lt (pe_callB call_len rfl Z.zlen PySem.boot_len (pa_cons (pv 1) pa_nil)) pe_int (nomark _)) (pw_or1 (pt_not (pt_val (pe_isi "str" (pe_ix ix_tup (pv 1) pe_int (fun _ _ => rfl)) Z.zisinstance Z.zstr)))))) (pss_one (ps_ret pe_bl)) pss_nil) (pss_cons (ps_if (pt_cmpR (op_eqD hr.units) (pe_ix ix_tup (pv 0) pe_int (fun _ _ => rfl)) pe_str (nomark _)) (pss_cons (ps_set (i := 2) sc.nd rfl (by first | exact Or.inl rfl | exact Or.inr rfl) (pe_dget2 (hu_of hr) (pe_disp (pps_cons pe_str pe_int (pps_cons pe_str pe_int pps_nil)) rfl rfl (fun z => nomatch z) (by decide)) (pe_ix ix_tup (pv 1) pe_int (fun _ _ => rfl)) pe_int ⟨rfl, rfl, rfl, rfl⟩)) (pss_one (ps_ret (pe_and (pe_cmpR op_gt (pv 2) pe_int (nomark _)) (pe_and (pe_cmpR (op_eqD hr.units) (pe_callB call_len rfl Z.zlen PySem.boot_len (pa_cons (pv 1) pa_nil)) pe_int (nomark _)) (pe_one (pe_callO O_is_valued hr (ha := (pa_cons (pe_ix ix_tup (pv 0) (pv 2) (fun _ _ => rfl)) (pa_cons (pe_ix ix_tup (pv 1) pe_int (fun _ _ => rfl)) pa_nil)))))))))) pss_nil) (pss_cons (ps_if (PW.pt (pw_or (pt_cmpR (op_neD hr.units) (pe_ix ix_tup (pv 1) pe_int (fun _ _ => rfl)) pe_str (nomark _)) (pw_or1 (pt_cmpR (op_neD hr.units) (pe_callB call_len rfl Z.zlen PySem.boot_len (pa_cons (pv 1) pa_nil)) pe_int (nomark _))))) (pss_one (ps_ret pe_bl)) pss_nil) (pss_one (ps_ret (pe_and (pe_callO O_is_valued hr (ha := (pa_cons (pe_ix ix_tup (pv 0) pe_int (fun _ _ => rfl)) (pa_cons (pe_ix ix_tup (pv 1) pe_int (fun _ _ => rfl)) pa_nil)))) (pe_one (pe_callO O_is_valued hr (ha := (pa_cons (pe_ix ix_tup (pv 0) pe_int (fun _ _ => rfl)) (pa_cons (pe_ix ix_tup (pv 1) pe_int (fun _ _ => rfl)) pa_nil))))))))))))))), ?_⟩
    obtain ⟨ds, b, t, ⟨k, x, ok, hd, h8, gd, rfl, rfl⟩, q⟩ := h
    obtain ⟨v, u, rfl, tv, tu⟩ := tp2 t
    have G := growS
    cases k with
    | num =>
      refine EvS.run G (es_ifT G (EvT.eq (evt_k0 G tv "num") tq_num_num) (es_retB G ?_ q))
      exact evb_call G (pre := preWhole) (eva_one G (ev_var G (show Tp H u (.int (toI x)) from tu))) ⟨_, rfl, rfl⟩
    | unit =>
      refine EvS.run G (es_ifF G (EvT.eq (evt_k0 G tv "num") tq_unit_num) (es_ifF G (evt_orF G (EvT.eq (evt_k0 G tv "fun") tq_unit_fun) (evt_notT (evt_isi G (.tuple []) (ev_var G tu) kit_tt))) (es_ifT G (EvT.eq (evt_k0 G tv "unit") tq_unit_unit) (es_retB G ?_ q))))
      refine EvB.to (evb_eq G (ev_var G (show Tp H u (.tuple []) from tu)) (ev_tup G (eva_nil G)) shp_nil shp_nil) ?_
      rw [eqv_tup, PyData.eqvAll]
    | bag a =>
      refine EvS.run G (es_ifF G (EvT.eq (evt_k0 G tv "num") tq_bag_num) (es_ifF G (evt_orF G (EvT.eq (evt_k0 G tv "fun") tq_bag_fun) (evt_notT (evt_isi G (.tuple _) (ev_var G tu) kit_tt))) (es_ifF G (EvT.eq (evt_k0 G tv "unit") tq_bag_unit) (es_ifT G (EvT.eq (evt_k0 G tv "bag") tq_bag_bag) (es_retB G ?_ q)))))
      have hdep : (Kd.bag a).dep = a.dep + 1 := rfl
      exact evb_call G (pre := preCounts n) (eva_two G (ev_ix1 G (ds := [.str "bag", encK a]) (ev_var G tv)) (ev_var G tu)) ⟨a, x, ok, by omega, by omega, gd, rfl, rfl⟩
    | either a b =>
      have hdep : (Kd.either a b).dep = max a.dep b.dep + 1 := rfl
      obtain ⟨o1, o2⟩ := Bool.and_eq_true_iff.mp (show (a.ok && b.ok) = true from ok)
      match x, gd, tu with
      | .inl x, gd, tu =>
        have tu' : Tp H u (.tuple [.str "left", enc a x]) := tu
        refine EvS.run G (es_ifF G (EvT.eq (evt_k0 G tv "num") tq_either_num) (es_ifF G (evt_orF G (EvT.eq (evt_k0 G tv "fun") tq_either_fun) (evt_notT (evt_isi G (.tuple _) (ev_var G tu') kit_tt))) (es_ifF G (EvT.eq (evt_k0 G tv "unit") tq_either_unit) (es_ifF G (EvT.eq (evt_k0 G tv "bag") tq_either_bag) (es_ifF G (evt_orF G (evt_lenLt G (n := 2) (ev_var G tu') (ev_int G) rfl) (evt_notT (evt_isi G (.str "left") (ev_ix0 G (ev_var G tu')) kit_ss))) (es_ifT G (EvT.eq (evt_k0 G tv "either") tq_either_either) ?_))))))
        refine es_set G (ev_sides (ev_ix0 G (ev_var G tu')) sd_l) fun z H1 g t => es_retB G (evb_andT G (EvB.to (evb_gt G (ev_var G t) (ev_int G)) rfl) (evb_andT G (evb_lenEq G (n := 2) (ev_var G (tu'.mono (TK.same g))) (ev_int G) rfl) ?_)) fun H2 g2 => q H2 (g.trans g2)
        exact evb_call G (pre := preValued n) (eva_two G (ev_ixV G (i := 1) (ds := [.str "either", encK a, encK b]) (ev_var G (tv.mono (TK.same g))) (ev_var G t) rfl) (ev_ix1 G (ev_var G (tu'.mono (TK.same g))))) ⟨a, x, o1, by omega, by omega, ⟨gd.ok, gd.sm⟩, rfl, rfl⟩
      | .inr x, gd, tu =>
        have tu' : Tp H u (.tuple [.str "right", enc b x]) := tu
        refine EvS.run G (es_ifF G (EvT.eq (evt_k0 G tv "num") tq_either_num) (es_ifF G (evt_orF G (EvT.eq (evt_k0 G tv "fun") tq_either_fun) (evt_notT (evt_isi G (.tuple _) (ev_var G tu') kit_tt))) (es_ifF G (EvT.eq (evt_k0 G tv "unit") tq_either_unit) (es_ifF G (EvT.eq (evt_k0 G tv "bag") tq_either_bag) (es_ifF G (evt_orF G (evt_lenLt G (n := 2) (ev_var G tu') (ev_int G) rfl) (evt_notT (evt_isi G (.str "right") (ev_ix0 G (ev_var G tu')) kit_ss))) (es_ifT G (EvT.eq (evt_k0 G tv "either") tq_either_either) ?_))))))
        refine es_set G (ev_sides (ev_ix0 G (ev_var G tu')) sd_r) fun z H1 g t => es_retB G (evb_andT G (EvB.to (evb_gt G (ev_var G t) (ev_int G)) rfl) (evb_andT G (evb_lenEq G (n := 2) (ev_var G (tu'.mono (TK.same g))) (ev_int G) rfl) ?_)) fun H2 g2 => q H2 (g.trans g2)
        exact evb_call G (pre := preValued n) (eva_two G (ev_ixV G (i := 2) (ds := [.str "either", encK a, encK b]) (ev_var G (tv.mono (TK.same g))) (ev_var G t) rfl) (ev_ix1 G (ev_var G (tu'.mono (TK.same g))))) ⟨b, x, o2, by omega, by omega, ⟨gd.ok, gd.sm⟩, rfl, rfl⟩
    | pair a b =>
      have hdep : (Kd.pair a b).dep = max a.dep b.dep + 1 := rfl
      obtain ⟨o1, o2⟩ := Bool.and_eq_true_iff.mp (show (a.ok && b.ok) = true from ok)
      have tu' : Tp H u (.tuple [.str "pair", enc a x.1, enc b x.2]) := tu
      refine EvS.run G (es_ifF G (EvT.eq (evt_k0 G tv "num") tq_pair_num) (es_ifF G (evt_orF G (EvT.eq (evt_k0 G tv "fun") tq_pair_fun) (evt_notT (evt_isi G (.tuple _) (ev_var G tu') kit_tt))) (es_ifF G (EvT.eq (evt_k0 G tv "unit") tq_pair_unit) (es_ifF G (EvT.eq (evt_k0 G tv "bag") tq_pair_bag) (es_ifF G (evt_orF G (evt_lenLt G (n := 2) (ev_var G tu') (ev_int G) rfl) (evt_notT (evt_isi G (.str "pair") (ev_ix0 G (ev_var G tu')) kit_ss))) (es_ifF G (EvT.eq (evt_k0 G tv "either") tq_pair_either) (es_ifF G (evt_orF G (evt_neS G (ev_ix0 G (ev_var G tu')) (ev_str G) ok_pair ok_pair tn_pair_pair) (evt_lenNe G (n := 3) (ev_var G tu') (ev_int G) rfl)) (es_retB G (evb_andT G ?_ ?_) q))))))))
      · exact evb_call G (pre := preValued n) (eva_two G (ev_ix1 G (ds := [.str "pair", encK a, encK b]) (ev_var G tv)) (ev_ix1 G (ev_var G tu'))) ⟨a, x.1, o1, by omega, by omega, ⟨gd.ok.1, gd.sm.1⟩, rfl, rfl⟩
      · exact evb_call G (pre := preValued n) (eva_two G (ev_ix2 G (ds := [.str "pair", encK a, encK b]) (ev_var G tv)) (ev_ix2 G (ev_var G tu'))) ⟨b, x.2, o2, by omega, by omega, ⟨gd.ok.2, gd.sm.2⟩, rfl, rfl⟩
end
end Cw
/-! part CwA4 -/
set_option Elab.async false
set_option linter.all false
set_option maxRecDepth 100000
set_option maxHeartbeats 1000000
/-! The defs on bags. -/
namespace Cw
open PySem PySem.Spec PyProof.Rows L2
section
variable {P : Program} {w : World} {K : PySem.W.Frag} {mg : Str → Option Value} {base : Heap}
theorem ltr {m n : Nat} (h : Nat.blt m n = true) : m < n := by simpa using h
/-! bag_by -/
def spBag (P : Program) (w : World) : Sp := fun vs H Q _ => ∃ (d : Addr) (a : Kd) (xs : List (Vl a × Int)), vs = [.ref d] ∧ BD P w H d a xs ∧ xs.length < 64 ∧ ∀ v H', Same H H' → Tp H' v (enc (.bag a) (norm (lt a) xs)) → Q v H'
theorem sc_bag_by : FnScope ["times", "value"] ["times"] (defScope s_bag_by) := ⟨rfl, rfl, rfl, by decide +kernel, rfl, by decide +kernel, by decide +kernel⟩
theorem ok_bag_by (Z : Fs w K mg) : OkF P w K mg base "bag_by" ["times"] 1 (spBag P w) := by
  have sc := sc_bag_by
  refine Z.f_bag_by.ok sc (fun vs H Q E ⟨d, a, xs, e, _⟩ => by rw [e]; rfl) (fun _ _ _ _ _ _ us hl => match us, hl with | [_], _ => rfl) fun f cdv A outer s H vs Q E hr h => ?_
  refine ⟨_, (pss_one (ps_ret (pe_callTy call_tupN rfl Z.ztuple boot_tuple (pa_cons (pe_lc rfl sc.nd (pi_list (pe_callB (cr_sortB rfl hr.units) rfl Z.zsorted boot_sorted (pa_cons (pv 0) pa_nil))) (own := [("value", 1)]) (blkOk_by rfl) (fun _ _ _ _ _ => (pg_name sc.nd (i := 1) rfl (by first | exact Or.inl rfl | exact Or.inr rfl))) (fun _ _ _ _ _ => (pts_one (pt_cmpR (op_neK (K := K) rfl hr.units) (pe_ngetK (P := P) (w := w) rfl rfl hr.units (pv 0) (pv 1)) pe_int (nomark _)))) (fun _ _ _ _ _ => (pe_tupN (pa_cons (pv 1) (pa_cons (pe_ngetK (P := P) (w := w) rfl rfl hr.units (pv 0) (pv 1)) pa_nil))))) pa_nil)))), ?_⟩
  obtain ⟨d, a, xs, rfl, B, h64, q⟩ := h
  exact EvS.run growS (es_ret growS (ev_tupleL growS (evl_out (i := 0) (j := 1) (by decide) (ltr rfl) B h64 rfl)) fun v H1 g t => q v H1 g t)
/-! sum_of_bags -/
structure BagOk (a : Kd) (xs ys : List (Vl a × Int)) : Prop where
  pl : a.plain = true
  dp : a.dep ≤ 8
  nd : (xs.map (·.1)).Nodup
  ln : xs.length + ys.length < 64
def preSum : List PyData → PyData → Prop := fun ds d => ∃ (a : Kd) (xs ys : List (Vl a × Int)), BagOk a xs ys ∧ ds = [enc (.bag a) xs, enc (.bag a) ys] ∧ d = enc (.bag a) (norm (lt a) (xs ++ ys))
theorem sc_sum_of_bags : FnScope ["one", "two", "times", "value", "more"] ["one", "two"] (defScope s_sum_of_bags) := ⟨rfl, rfl, rfl, by decide +kernel, rfl, by decide +kernel, by decide +kernel⟩
theorem ok_sum_of_bags (Z : Fs w K mg) : OkF P w K mg base "sum_of_bags" ["one", "two"] 2 (spD preSum) := by
  have sc := sc_sum_of_bags
  have O_bag_by := ok_bag_by (P := P) (base := base) Z
  refine Z.f_sum_of_bags.ok sc (spD_len fun ds d ⟨a, xs, ys, _, e, _⟩ => by rw [e]; rfl) (fun _ _ _ _ _ _ us hl => match us, hl with | [_, _], _ => rfl) fun f cdv A outer s H vs Q E hr h => ?_
  refine ⟨_, (pss_cons (ps_set (i := 2) sc.nd rfl (by first | exact Or.inl rfl | exact Or.inr rfl) (pe_callTy (cr_dictB rfl hr.units) rfl Z.zdict boot_dict (pa_cons (pv 0) pa_nil))) (pss_cons (ps_for PassesOwn.never rfl (pi_tup (pv 1)) (pg_tup rfl (pgs_cons (pg_name sc.nd (i := 3) rfl (by first | exact Or.inl rfl | exact Or.inr rfl)) (pgs_cons (pg_name sc.nd (i := 4) rfl (by first | exact Or.inl rfl | exact Or.inr rfl)) pgs_nil))) (pss_one (ps_nput hr.units (pv 2) (pv 3) (pe_op op_add (pe_nget2 hr.units (pv 2) (pv 3) pe_int ⟨rfl, rfl, rfl, rfl⟩) (pv 4)) rfl))) (pss_one (ps_ret (pe_callO O_bag_by hr (ha := (pa_cons (pv 2) pa_nil))))))), ?_⟩
  obtain ⟨ds, d, t, ⟨a, xs, ys, b, rfl, rfl⟩, q⟩ := h
  obtain ⟨v, u, rfl, tv, tu⟩ := tp2 t
  refine ⟨v, rfl, v, a, xs, rfl, b.pl, b.dp, tv, b.nd, by have := b.ln; omega, fun p H1 hn s1 B => ?_⟩
  have tu1 : Tp H1 u (.tuple (ys.map (encP a))) := tu.mono (TK.same s1)
  obtain ⟨l, us, rfl, fl, tl⟩ := (show Tp H u (.tuple (ys.map (encP a))) from tu).tup_of
  refine ⟨.ref l, rfl, l, rfl, ⟨us, .inl (rd_same s1 fl.rd)⟩, for_bag (K := K) (walk_tup fl.rd tl) hn s1 B rfl (by decide) (by decide) (by decide) (ltr rfl) (ltr rfl) b.ln fun σ' Hc zs hl h2 s2 B2 hc hz => ?_⟩
  refine ⟨.ref p, h2, p, a, zs, rfl, B2, hz, fun r H' s3 tr => q r H' (s2.trans s3) ?_⟩
  rw [norm_congr (ltO b.pl) (m := zs) fun z => by rw [cnt_append, hc z]]
  exact tr
/-! is_paired -/
def prePaired : List PyData → Bool → Prop := fun ds b => ∃ (a : Kd) (xs : List (Vl a × Int)), a.dep ≤ 8 ∧ ds = [enc (.bag a) xs] ∧ b = false
theorem sc_is_paired : FnScope ["value"] ["value"] (defScope s_is_paired) := ⟨rfl, rfl, rfl, by decide +kernel, rfl, by decide +kernel, by decide +kernel⟩
theorem ok_is_paired (Z : Fs w K mg) : OkF P w K mg base "is_paired" ["value"] 1 (spB prePaired) := by
  have sc := sc_is_paired
  refine Z.f_is_paired.ok sc (spB_len fun ds d ⟨a, xs, _, e, _⟩ => by rw [e]; rfl) (fun _ _ _ _ _ _ us hl => match us, hl with | [_], _ => rfl) fun f cdv A outer s H vs Q E hr h => ?_
  refine ⟨_, (pss_one (ps_ret (pe_and (pe_cmpR (op_neD hr.units) (pv 0) (pe_tupN pa_nil) (nomark _)) (pe_one (pe_cmpR (op_eqD hr.units) (pe_ix ix_tup (pv 0) pe_int (fun _ _ => rfl)) pe_str (nomark _)))))), ?_⟩
  obtain ⟨ds, d, t, ⟨a, xs, dp, rfl, rfl⟩, q⟩ := h
  obtain ⟨v, rfl, tv⟩ := tp1 t
  have G := growS
  have dp2 : (Kd.bag a).dep ≤ 30 := by show a.dep + 1 ≤ 30; omega
  have hne := evb_ne (K := K) G (ev_var (R := Same) (σ := start ["value"] [v]) (i := 0) G tv) (ev_tup G (eva_nil G)) (shp_enc (k := .bag a) xs dp2) shp_nil
  have e1 : PyData.eqv (enc (.bag a) xs) (.tuple []) = decide (xs = []) := eqv_enc (.bag a) xs []
  rw [e1] at hne
  refine EvS.run G (es_retB G (b := false) ?_ q)
  cases xs with
  | nil => exact evb_andF (EvB.to hne (by rw [decide_eq_true rfl]; rfl))
  | cons p xs =>
    refine evb_andT G (EvB.to hne (by rw [decide_eq_false (fun z => nomatch z)]; rfl)) (EvB.to (evb_eq G (ev_ix0 G (ds := (p :: xs).map (encP a)) (ev_var G tv)) (ev_str G) (shp_encP p (by omega)) (shp_str ok_pair)) ?_)
    show PyData.eqv (.tuple _) (.str _) = false
    simp only [PyData.eqv]
/-! plus_by -/
def prePlus : List PyData → PyData → Prop := fun ds d => (∃ i j : Int, ds = [.int i, .int j] ∧ d = .int (i + j)) ∨ preSum ds d
theorem prePlus_len {ds : List PyData} {d : PyData} (h : prePlus ds d) : ds.length = 2 := by
  rcases h with ⟨i, j, e, _⟩ | ⟨a, xs, ys, _, e, _⟩ <;> rw [e] <;> rfl
theorem sc_plus_by : FnScope ["one", "two"] ["one", "two"] (defScope s_plus_by) := ⟨rfl, rfl, rfl, by decide +kernel, rfl, by decide +kernel, by decide +kernel⟩
theorem ok_plus_by (Z : Fs w K mg) : OkF P w K mg base "plus_by" ["one", "two"] 3 (spD prePlus) := by
  have sc := sc_plus_by
  have O_is_paired := ok_is_paired (P := P) (base := base) Z
  have O_sum_of_bags := ok_sum_of_bags (P := P) (base := base) Z
  have O_plus_by : OkF P w K mg base "plus_by" ["one", "two"] 1 (spD fun _ _ => False) := by
    refine Z.f_plus_by.ok (k := 0) sc (fun vs H Q E ⟨_, _, _, h, _⟩ => h.elim) (fun _ _ _ _ _ _ us hl => match us, hl with | [_, _], _ => rfl) fun f cdv A outer s H vs Q E hr ⟨_, _, _, h, _⟩ => h.elim
  refine Z.f_plus_by.ok sc (spD_len fun ds d h => prePlus_len h) (fun _ _ _ _ _ _ us hl => match us, hl with | [_, _], _ => rfl) fun f cdv A outer s H vs Q E hr h => ?_
  refine ⟨_, (pss_cons (ps_if (pt_val (pe_isi "int" (pv 0) Z.zisinstance Z.zint)) (pss_one (ps_ret (pe_op op_add (pv 0) (pv 1)))) pss_nil) (pss_cons (ps_if (pt_val (pe_callO O_is_paired hr (ha := (pa_cons (pv 0) pa_nil)))) (pss_one (ps_ret (pe_tupN (pa_cons pe_str (pa_cons (pe_callO O_plus_by hr (ha := (pa_cons (pe_ix ix_tup (pv 0) pe_int (fun _ _ => rfl)) (pa_cons (pe_ix ix_tup (pv 1) pe_int (fun _ _ => rfl)) pa_nil)))) (pa_cons (pe_callO O_plus_by hr (ha := (pa_cons (pe_ix ix_tup (pv 0) pe_int (fun _ _ => rfl)) (pa_cons (pe_ix ix_tup (pv 1) pe_int (fun _ _ => rfl)) pa_nil)))) pa_nil)))))) pss_nil) (pss_one (ps_ret (pe_callO O_sum_of_bags hr (ha := (pa_cons (pv 0) (pa_cons (pv 1) pa_nil)))))))), ?_⟩
  obtain ⟨ds, d, t, c, q⟩ := h
  have G := growS
  rcases c with ⟨i, j, rfl, rfl⟩ | ⟨a, xs, ys, b, rfl, rfl⟩
  · obtain ⟨v, u, rfl, tv, tu⟩ := tp2 t
    exact EvS.run G (es_ifT G (evt_isi G (.int i) (ev_var G tv) kit_ii) (es_ret G (ev_intop (g := fun i j => i + j) G (ev_var G tv) (ev_var G tu)) q))
  · obtain ⟨v, u, rfl, tv, tu⟩ := tp2 t
    exact EvS.run G (es_ifF G (evt_isi G (.tuple _) (ev_var G tv) kit_ti) (es_ifF G (evt_B (evb_call G (pre := prePaired) (eva_one G (ev_var G tv)) ⟨a, xs, b.dp, rfl, rfl⟩)) (es_ret G (ev_call G (pre := preSum) (eva_two G (ev_var G tv) (ev_var G tu)) ⟨a, xs, ys, b, rfl, rfl⟩) q)))
/-! times_by -/
def preTimes : List PyData → PyData → Prop := fun ds d => (∃ i : Int, ds = [.int (-1), .int i] ∧ d = .int (-1 * i)) ∨ ∃ (a : Kd) (xs : List (Vl a × Int)), a.dep ≤ 8 ∧ xs.length ≤ 1000 ∧ ds = [.int (-1), enc (.bag a) xs] ∧ d = enc (.bag a) (negB xs)
theorem preTimes_len {ds : List PyData} {d : PyData} (h : preTimes ds d) : ds.length = 2 := by
  rcases h with ⟨i, e, _⟩ | ⟨a, xs, _, _, e, _⟩ <;> rw [e] <;> rfl
theorem cmul1 (i : Int) : CMul (-1) i := .inl ⟨by decide, by decide⟩
/-- [(e, n * times) for e, times in t] with n = -1 -/
theorem evl_neg {σ : L2.St} {H : Hp} {te : TE} {a : Kd} {xs : List (Vl a × Int)} {i j k : Nat} (ni : i ≠ k) (nj : j ≠ k) (nij : i ≠ j) (li : i < σ.length) (lj : j < σ.length) (hz : xs.length ≤ 1000) (hs : EvQ Same te σ H (xs.map (encP a))) (hk : σ[k]? = some (some (.int (-1)))) :
    EvL Same (tLc (iTup K te) (gTup K 2 (gCons (gName i) (gCons (gName j) gNil))) tYes (tTupN (tCons (tVar i) (tCons (tOp (rI CMul fun i j => .int (i * j)) (tVar k) (tVar j)) tNil))) [i, j]) σ H ((negB xs).map (encP a)) := by
  have ef : xs.filterMap (fun p => some (encP a (p.1, -1 * p.2))) = (negB xs).map (encP a) := by
    unfold negB
    rw [show (fun p : Vl a × Int => some (encP a (p.1, -1 * p.2))) = some ∘ (fun p : Vl a × Int => encP a (p.1, -1 * p.2)) from rfl, List.filterMap_eq_map, List.map_map]
    rfl
  rw [← ef]
  refine evl_tup growS (c := encP a) hs hz fun p hp Hc v g t => ?_
  obtain ⟨b, us, rfl, fb, tu⟩ := (show Tp Hc v (.tuple [enc a p.1, .int p.2]) from t).tup_of
  obtain ⟨kv, nv, rfl, tk, tn⟩ := tp2 tu
  have e1 : (((wipe σ [i, j]).set i (some kv)).set j (some nv))[k]? = some (some (.int (-1))) := by
    rw [List.getElem?_set_ne nj, List.getElem?_set_ne ni, show wipe σ [i, j] = (σ.set j none).set i none from rfl, List.getElem?_set_ne ni, List.getElem?_set_ne nj]
    exact hk
  have e2 : (((wipe σ [i, j]).set i (some kv)).set j (some nv))[i]? = some (some kv) := by
    rw [List.getElem?_set_ne (Ne.symm nij)]
    exact List.getElem?_set_self (by rw [wipe_length]; exact li)
  have e3 : (((wipe σ [i, j]).set i (some kv)).set j (some nv))[j]? = some (some nv) := List.getElem?_set_self (by rw [List.length_set, wipe_length]; exact lj)
  refine ⟨_, wipe2 nij, fun q h => ⟨b, _, rfl, fb.sq, rfl, _, _, rfl, _, _, rfl, rfl, h⟩, true, fun H3 s3 Q3 q3 => q3 H3 (Same.refl _), (fun h => by cases h), fun _ => ⟨_, rfl, ?_⟩⟩
  exact ev_tup growS (eva_two growS (ev_var growS tk e2) (ev_intopC (g := fun i j => i * j) growS (ev_var growS (.int (-1)) e1) (ev_var growS tn e3) (cmul1 _))) (show 2 ≤ 1000 by decide)
theorem sc_times_by : FnScope ["number", "value", "each", "times"] ["number", "value"] (defScope s_times_by) := ⟨rfl, rfl, rfl, by decide +kernel, rfl, by decide +kernel, by decide +kernel⟩
theorem ok_times_by (Z : Fs w K mg) : OkF P w K mg base "times_by" ["number", "value"] 2 (spD preTimes) := by
  have sc := sc_times_by
  have O_is_paired := ok_is_paired (P := P) (base := base) Z
  have O_times_by : OkF P w K mg base "times_by" ["number", "value"] 1 (spD fun _ _ => False) := by
    refine Z.f_times_by.ok (k := 0) sc (fun vs H Q E ⟨_, _, _, h, _⟩ => h.elim) (fun _ _ _ _ _ _ us hl => match us, hl with | [_, _], _ => rfl) fun f cdv A outer s H vs Q E hr ⟨_, _, _, h, _⟩ => h.elim
  refine Z.f_times_by.ok sc (spD_len fun ds d h => preTimes_len h) (fun _ _ _ _ _ _ us hl => match us, hl with | [_, _], _ => rfl) fun f cdv A outer s H vs Q E hr h => ?_
  refine ⟨_, (pss_cons (ps_if (pt_val (pe_isi "int" (pv 1) Z.zisinstance Z.zint)) (pss_one (ps_ret (pe_op op_mul (pv 0) (pv 1)))) pss_nil) (pss_cons (ps_if (pt_val (pe_callO O_is_paired hr (ha := (pa_cons (pv 1) pa_nil)))) (pss_one (ps_ret (pe_tupN (pa_cons pe_str (pa_cons (pe_callO O_times_by hr (ha := (pa_cons (pv 0) (pa_cons (pe_ix ix_tup (pv 1) pe_int (fun _ _ => rfl)) pa_nil)))) (pa_cons (pe_callO O_times_by hr (ha := (pa_cons (pv 0) (pa_cons (pe_ix ix_tup (pv 1) pe_int (fun _ _ => rfl)) pa_nil)))) pa_nil)))))) pss_nil) (pss_one (ps_ret (pe_ifExp (pt_cmpR (op_neD hr.units) (pv 0) pe_int (nomark _)) (pe_callTy call_tupN rfl Z.ztuple boot_tuple (pa_cons (pe_lc rfl sc.nd (pi_tup (pv 1)) (own := [("each", 2), ("times", 3)]) (blkOk_by rfl) (fun _ _ _ _ _ => (pg_tupK (K := K) (n := 2) rfl rfl (pgs_cons (pg_name sc.nd (i := 2) rfl (by first | exact Or.inl rfl | exact Or.inr rfl)) (pgs_cons (pg_name sc.nd (i := 3) rfl (by first | exact Or.inl rfl | exact Or.inr rfl)) pgs_nil)))) (fun _ _ _ _ _ => pts_nil) (fun _ _ _ _ _ => (pe_tupN (pa_cons (pv 2) (pa_cons (pe_op op_mul (pv 0) (pv 3)) pa_nil))))) pa_nil)) (pe_tupN pa_nil)))))), ?_⟩
  obtain ⟨ds, d, t, c, q⟩ := h
  have G := growS
  rcases c with ⟨i, rfl, rfl⟩ | ⟨a, xs, dp, hz, rfl, rfl⟩
  · obtain ⟨v, u, rfl, tv, tu⟩ := tp2 t
    exact EvS.run G (es_ifT G (evt_isi G (.int i) (ev_var G tu) kit_ii) (es_ret G (ev_intopC (g := fun i j => i * j) G (ev_var G tv) (ev_var G tu) (cmul1 i)) q))
  · obtain ⟨v, u, rfl, tv, tu⟩ := tp2 t
    obtain rfl := tv.int_of
    refine EvS.run G (es_ifF G (evt_isi G (.tuple _) (ev_var G tu) kit_ti) (es_ifF G (evt_B (evb_call G (pre := prePaired) (eva_one G (ev_var G tu)) ⟨a, xs, dp, rfl, rfl⟩)) (es_ret G (ev_ifT G (EvT.eq (evt_test (evb_neI G (ev_var G tv) (ev_int G))) rfl) (ev_tupleL G (evl_neg (by decide) (by decide) (by decide) (ltr rfl) (ltr rfl) hz (EvD.q (ev_var G (show Tp H u (.tuple (xs.map (encP a))) from tu))) rfl))) q)))
end
end Cw
/-! part CwA5 -/
set_option Elab.async false
set_option linter.all false
set_option maxRecDepth 100000
set_option maxHeartbeats 1000000
/-! Changes: whether one is one, whether it fits, where it leads, what leads there. -/
namespace Cw
open PySem PySem.Spec PyProof.Rows L2
theorem pe_globO {X : Cx} {x : Str} {ps : List Str} {j : Nat} {sp : Sp} {p : Pos} (O : OkF X.prog X.w X.K X.mg X.base x ps j sp) (hg : Gl X x := by rfl) (hd : (x == ("__debug__" : Str)) = false := by decide +kernel) : PE X (.Name x p) (tC (.ref (He.ga X.K x))) := pe_glob hg O.gl rfl hd
theorem pe_callLO {X : Cx} {x y : Str} {ps : List Str} {i j k : Nat} {sp : Sp} {p pos : Pos} {e : Expr} {es : List Expr} {t : TA} (O : OkF X.prog X.w X.K X.mg X.base y ps j sp) (hr : Room k X.A) (hjk : j ≤ k := by omega) (ha : PA X (e :: es) t) (hN : X.N[i]? = some x := by rfl)
    (hv : Vis X.env.scope x := by first | exact Or.inl rfl | exact Or.inr (Or.inl rfl) | exact Or.inr (Or.inr rfl)) (hdb : (x == ("__debug__" : Str)) = false := by decide +kernel) (hcd : (x == ("__classdict__" : Str)) = false := by decide +kernel)
    (he : starEach (e :: es) X.env = (false, eval e X.env) :: starEach es X.env := by rfl) (hpl : (backTo pos (starEach es X.env)).any (·.1) = false := by rfl) : PE X (.Call (.Name x p) (e :: es) [] pos) (tCallL i (He.ga X.K y) sp [] E0 t) := by
  obtain ⟨fd, F, b, kp, _⟩ := O.ex
  exact pe_callL F (hr.mono hjk) hN hv kp b .nil pass0 ha hdb hcd he hpl
section
variable {P : Program} {w : World} {K : PySem.W.Frag} {mg : Str → Option Value} {base : Heap}
/-! is_change_by -/
def preChange (n : Nat) : List PyData → Bool → Prop := fun ds b => ∃ (k : Kd) (c : Vl k.D), k.ok = true ∧ k.dep ≤ n ∧ k.dep ≤ 8 ∧ Gd k.D c ∧ ds = [encK k, enc k.D c] ∧ b = true
theorem sc_is_change_by : FnScope ["kind", "value"] ["kind", "value"] (defScope s_is_change_by) := ⟨rfl, rfl, rfl, by decide +kernel, rfl, by decide +kernel, by decide +kernel⟩
theorem ok_is_change_by (Z : Fs w K mg) : ∀ n, OkF P w K mg base "is_change_by" ["kind", "value"] (3 * n + 4) (spB (preChange n))
  | 0 => Z.f_is_change_by.ok (k := 3) sc_is_change_by (spB_len fun ds b ⟨k, v, _, _, _, _, e, _⟩ => by rw [e]; rfl) (fun _ _ _ _ _ _ us hl => match us, hl with | [_, _], _ => rfl) fun f cdv A outer s H vs Q E hr h => by
    obtain ⟨ds, b, t, ⟨k, v, _, hd, _⟩, q⟩ := h
    have := k.dep_pos
    exfalso
    omega
  | n + 1 => by
    have sc := sc_is_change_by
    have O_is_side := ok_is_side (P := P) (base := base) Z
    have O_is_valued := ok_is_valued (P := P) (base := base) Z (n + 1)
    have O_is_change_by := ok_is_change_by Z n
    refine Z.f_is_change_by.ok (k := 3 * n + 6) sc (spB_len fun ds b ⟨k, v, _, _, _, _, e, _⟩ => by rw [e]; rfl) (fun _ _ _ _ _ _ us hl => match us, hl with | [_, _], _ => rfl) fun f cdv A outer s H vs Q E hr h => ?_
    refine ⟨_, (pss_cons (ps_if (pt_cmpR (op_eqD hr.units) (pe_ix ix_tup (pv 0) pe_int (fun _ _ => rfl)) pe_str (nomark _)) (pss_cons (ps_if (PW.pt (pw_or (pt_not (pt_val (pe_isi "tuple" (pv 1) Z.zisinstance Z.ztuple))) (pw_or (pt_cmpR (op_neD hr.units) (pe_callB call_len rfl Z.zlen PySem.boot_len (pa_cons (pv 1) pa_nil)) pe_int (nomark _)) (pw_or (pt_not (pt_val (pe_isi "str" (pe_ix ix_tup (pv 1) pe_int (fun _ _ => rfl)) Z.zisinstance Z.zstr))) (pw_or1 (pt_cmpR (op_neD hr.units) (pe_ix ix_tup (pv 1) pe_int (fun _ _ => rfl)) pe_str (nomark _))))))) (pss_one (ps_ret pe_bl)) pss_nil) (pss_one (ps_ret (pe_and (pe_callO O_is_change_by hr (ha := (pa_cons (pe_ix ix_tup (pv 0) pe_int (fun _ _ => rfl)) (pa_cons (pe_ix ix_tup (pv 1) pe_int (fun _ _ => rfl)) pa_nil)))) (pe_one (pe_callO O_is_change_by hr (ha := (pa_cons (pe_ix ix_tup (pv 0) pe_int (fun _ _ => rfl)) (pa_cons (pe_ix ix_tup (pv 1) pe_int (fun _ _ => rfl)) pa_nil))))))))) pss_nil) (pss_cons (ps_if (pt_cmpR (op_neD hr.units) (pe_ix ix_tup (pv 0) pe_int (fun _ _ => rfl)) pe_str (nomark _)) (pss_one (ps_ret (pe_callO O_is_valued hr (ha := (pa_cons (pv 0) (pa_cons (pv 1) pa_nil)))))) pss_nil) (pss_cons (ps_if (pt_val (pe_callO O_is_side hr (ha := (pa_cons (pv 1) (pa_cons pe_str pa_nil))))) (pss_one (ps_ret (pe_callO O_is_valued hr (ha := (pa_cons (pv 0) (pa_cons (pe_ix ix_tup (pv 1) pe_int (fun _ _ => rfl)) pa_nil)))))) pss_nil) (pss_cons (ps_if (pt_not (pt_val (pe_callO O_is_side hr (ha := (pa_cons (pv 1) (pa_cons pe_str pa_nil)))))) (pss_one (ps_ret pe_bl)) pss_nil) (pss_cons (ps_if (pt_val (pe_callO O_is_side hr (ha := (pa_cons (pe_ix ix_tup (pv 1) pe_int (fun _ _ => rfl)) (pa_cons pe_str pa_nil))))) (pss_one (ps_ret (pe_callO O_is_change_by hr (ha := (pa_cons (pe_ix ix_tup (pv 0) pe_int (fun _ _ => rfl)) (pa_cons (pe_ix ix_tup (pe_ix ix_tup (pv 1) pe_int (fun _ _ => rfl)) pe_int (fun _ _ => rfl)) pa_nil)))))) pss_nil) (pss_one (ps_ret (pe_and (pe_callO O_is_side hr (ha := (pa_cons (pe_ix ix_tup (pv 1) pe_int (fun _ _ => rfl)) (pa_cons pe_str pa_nil)))) (pe_one (pe_callO O_is_change_by hr (ha := (pa_cons (pe_ix ix_tup (pv 0) pe_int (fun _ _ => rfl)) (pa_cons (pe_ix ix_tup (pe_ix ix_tup (pv 1) pe_int (fun _ _ => rfl)) pe_int (fun _ _ => rfl)) pa_nil))))))))))))), ?_⟩
    obtain ⟨ds, b, t, ⟨k, c, ok, hd, h8, gd, rfl, rfl⟩, q⟩ := h
    obtain ⟨v, u, rfl, tv, tu⟩ := tp2 t
    have G := growS
    cases k with
    | unit => exact EvS.run G (es_ifF G (EvT.eq (evt_k0 G tv "pair") tq_unit_pair) (es_ifT G (EvT.eq (evt_k0n G tv "either") tn_unit_either) (es_retB G (evb_call G (pre := preValued (n + 1)) (eva_two G (ev_var G tv) (ev_var G tu)) ⟨.unit, c, ok, hd, h8, gd, rfl, rfl⟩) q)))
    | num => exact EvS.run G (es_ifF G (EvT.eq (evt_k0 G tv "pair") tq_num_pair) (es_ifT G (EvT.eq (evt_k0n G tv "either") tn_num_either) (es_retB G (evb_call G (pre := preValued (n + 1)) (eva_two G (ev_var G tv) (ev_var G tu)) ⟨.num, c, ok, hd, h8, gd, rfl, rfl⟩) q)))
    | bag a => exact EvS.run G (es_ifF G (EvT.eq (evt_k0 G tv "pair") tq_bag_pair) (es_ifT G (EvT.eq (evt_k0n G tv "either") tn_bag_either) (es_retB G (evb_call G (pre := preValued (n + 1)) (eva_two G (ev_var G tv) (ev_var G tu)) ⟨.bag a, c, ok, hd, h8, gd, rfl, rfl⟩) q)))
    | pair a b =>
      have hdep : (Kd.pair a b).dep = max a.dep b.dep + 1 := rfl
      obtain ⟨o1, o2⟩ := Bool.and_eq_true_iff.mp (show (a.ok && b.ok) = true from ok)
      have tu' : Tp H u (.tuple [.str "pair", enc a.D (show Vl a.D × Vl b.D from c).1, enc b.D (show Vl a.D × Vl b.D from c).2]) := tu
      refine EvS.run G (es_ifT G (EvT.eq (evt_k0 G tv "pair") tq_pair_pair) (es_ifF G (evt_orF G (evt_notT (evt_isi G (.tuple _) (ev_var G tu') kit_tt)) (evt_orF G (evt_lenNe G (n := 3) (ev_var G tu') (ev_int G) rfl) (evt_orF G (evt_notT (evt_isi G (.str "pair") (ev_ix0 G (ev_var G tu')) kit_ss)) (evt_neS G (ev_ix0 G (ev_var G tu')) (ev_str G) ok_pair ok_pair tn_pair_pair)))) (es_retB G (evb_andT G ?_ ?_) q)))
      · exact evb_call G (pre := preChange n) (eva_two G (ev_ix1 G (ds := [.str "pair", encK a, encK b]) (ev_var G tv)) (ev_ix1 G (ev_var G tu'))) ⟨a, _, o1, by omega, by omega, ⟨gd.ok.1, gd.sm.1⟩, rfl, rfl⟩
      · exact evb_call G (pre := preChange n) (eva_two G (ev_ix2 G (ds := [.str "pair", encK a, encK b]) (ev_var G tv)) (ev_ix2 G (ev_var G tu'))) ⟨b, _, o2, by omega, by omega, ⟨gd.ok.2, gd.sm.2⟩, rfl, rfl⟩
    | either a b =>
      have hdep : (Kd.either a b).dep = max a.dep b.dep + 1 := rfl
      obtain ⟨o1, o2⟩ := Bool.and_eq_true_iff.mp (show (a.ok && b.ok) = true from ok)
      match c, gd, tu with
      | .inr x, gd, tu =>
        have tu' : Tp H u (.tuple [.str "right", enc (.either a b) x]) := tu
        refine EvS.run G (es_ifF G (EvT.eq (evt_k0 G tv "pair") tq_either_pair) (es_ifF G (EvT.eq (evt_k0n G tv "either") tn_either_either) (es_ifT G (evt_B (EvB.to (evb_call G (pre := preSide) (eva_two G (ev_var G tu') (ev_str G)) ⟨"right", _, "right", rfl, ok_right, ok_right, rfl⟩) tq_right_right)) (es_retB G ?_ q))))
        exact evb_call G (pre := preValued (n + 1)) (eva_two G (ev_var G tv) (ev_ix1 G (ev_var G tu'))) ⟨.either a b, x, ok, hd, h8, ⟨gd.ok, gd.sm⟩, rfl, rfl⟩
      | .inl (.inl x), gd, tu =>
        have tu' : Tp H u (.tuple [.str "left", .tuple [.str "left", enc a.D x]]) := tu
        refine EvS.run G (es_ifF G (EvT.eq (evt_k0 G tv "pair") tq_either_pair) (es_ifF G (EvT.eq (evt_k0n G tv "either") tn_either_either) (es_ifF G (evt_B (EvB.to (evb_call G (pre := preSide) (eva_two G (ev_var G tu') (ev_str G)) ⟨"left", _, "right", rfl, ok_left, ok_right, rfl⟩) tq_left_right)) (es_ifF G (evt_notT (evt_B (EvB.to (evb_call G (pre := preSide) (eva_two G (ev_var G tu') (ev_str G)) ⟨"left", _, "left", rfl, ok_left, ok_left, rfl⟩) tq_left_left))) (es_ifT G (evt_B (EvB.to (evb_call G (pre := preSide) (eva_two G (ev_ix1 G (ev_var G tu')) (ev_str G)) ⟨"left", _, "left", rfl, ok_left, ok_left, rfl⟩) tq_left_left)) (es_retB G ?_ q))))))
        exact evb_call G (pre := preChange n) (eva_two G (ev_ix1 G (ds := [.str "either", encK a, encK b]) (ev_var G tv)) (ev_ix1 G (ds := [.str "left", enc a.D x]) (ev_ix1 G (ev_var G tu')))) ⟨a, x, o1, by omega, by omega, ⟨gd.ok, gd.sm⟩, rfl, rfl⟩
      | .inl (.inr x), gd, tu =>
        have tu' : Tp H u (.tuple [.str "left", .tuple [.str "right", enc b.D x]]) := tu
        refine EvS.run G (es_ifF G (EvT.eq (evt_k0 G tv "pair") tq_either_pair) (es_ifF G (EvT.eq (evt_k0n G tv "either") tn_either_either) (es_ifF G (evt_B (EvB.to (evb_call G (pre := preSide) (eva_two G (ev_var G tu') (ev_str G)) ⟨"left", _, "right", rfl, ok_left, ok_right, rfl⟩) tq_left_right)) (es_ifF G (evt_notT (evt_B (EvB.to (evb_call G (pre := preSide) (eva_two G (ev_var G tu') (ev_str G)) ⟨"left", _, "left", rfl, ok_left, ok_left, rfl⟩) tq_left_left))) (es_ifF G (evt_B (EvB.to (evb_call G (pre := preSide) (eva_two G (ev_ix1 G (ev_var G tu')) (ev_str G)) ⟨"right", _, "left", rfl, ok_right, ok_left, rfl⟩) tq_right_left)) (es_retB G (evb_andT G (EvB.to (evb_call G (pre := preSide) (eva_two G (ev_ix1 G (ev_var G tu')) (ev_str G)) ⟨"right", _, "right", rfl, ok_right, ok_right, rfl⟩) tq_right_right) ?_) q))))))
        exact evb_call G (pre := preChange n) (eva_two G (ev_ix2 G (ds := [.str "either", encK a, encK b]) (ev_var G tv)) (ev_ix1 G (ds := [.str "right", enc b.D x]) (ev_ix1 G (ev_var G tu')))) ⟨b, x, o2, by omega, by omega, ⟨gd.ok, gd.sm⟩, rfl, rfl⟩
/-! fits_by -/
def preFits (n : Nat) : List PyData → Bool → Prop := fun ds r => ∃ (k : Kd) (v : Vl k) (c : Vl k.D), k.dep ≤ n ∧ ds = [encK k, enc k v, enc k.D c] ∧ r = fits k v c
theorem sc_fits_by : FnScope ["kind", "value", "change", "side", "more"] ["kind", "value", "change"] (defScope s_fits_by) := ⟨rfl, rfl, rfl, by decide +kernel, rfl, by decide +kernel, by decide +kernel⟩
theorem ok_fits_by (Z : Fs w K mg) : ∀ n, OkF P w K mg base "fits_by" ["kind", "value", "change"] (n + 2) (spB (preFits n))
  | 0 => Z.f_fits_by.ok (k := 1) sc_fits_by (spB_len fun ds b ⟨k, v, c, _, e, _⟩ => by rw [e]; rfl) (fun _ _ _ _ _ _ us hl => match us, hl with | [_, _, _], _ => rfl) fun f cdv A outer s H vs Q E hr h => by
    obtain ⟨ds, b, t, ⟨k, v, c, hd, _⟩, q⟩ := h
    have := k.dep_pos
    exfalso
    omega
  | n + 1 => by
    have sc := sc_fits_by
    have O_part_kind := ok_part_kind (P := P) (base := base) Z
    have O_fits_by := ok_fits_by Z n
    refine Z.f_fits_by.ok (k := n + 2) sc (spB_len fun ds b ⟨k, v, c, _, e, _⟩ => by rw [e]; rfl) (fun _ _ _ _ _ _ us hl => match us, hl with | [_, _, _], _ => rfl) fun f cdv A outer s H vs Q E hr h => ?_
    refine ⟨_, (pss_cons (ps_if (pt_cmpR (op_eqD hr.units) (pe_ix ix_tup (pv 0) pe_int (fun _ _ => rfl)) pe_str (nomark _)) (pss_one (ps_ret (pe_and (pe_callO O_fits_by hr (ha := (pa_cons (pe_ix ix_tup (pv 0) pe_int (fun _ _ => rfl)) (pa_cons (pe_ix ix_tup (pv 1) pe_int (fun _ _ => rfl)) (pa_cons (pe_ix ix_tup (pv 2) pe_int (fun _ _ => rfl)) pa_nil))))) (pe_one (pe_callO O_fits_by hr (ha := (pa_cons (pe_ix ix_tup (pv 0) pe_int (fun _ _ => rfl)) (pa_cons (pe_ix ix_tup (pv 1) pe_int (fun _ _ => rfl)) (pa_cons (pe_ix ix_tup (pv 2) pe_int (fun _ _ => rfl)) pa_nil))))))))) pss_nil) (pss_cons (ps_if (PW.pt (pw_or (pt_cmpR (op_neD hr.units) (pe_ix ix_tup (pv 0) pe_int (fun _ _ => rfl)) pe_str (nomark _)) (pw_or1 (pt_cmpR (op_eqD hr.units) (pe_ix ix_tup (pv 2) pe_int (fun _ _ => rfl)) pe_str (nomark _))))) (pss_one (ps_ret pe_bl)) pss_nil) (pss_cons (ps_asg (pe_ix ix_tup (pv 2) pe_int (fun _ _ => rfl)) (pg_tup rfl (pgs_cons (pg_name sc.nd (i := 3) rfl (by first | exact Or.inl rfl | exact Or.inr rfl)) (pgs_cons (pg_name sc.nd (i := 4) rfl (by first | exact Or.inl rfl | exact Or.inr rfl)) pgs_nil)))) (pss_one (ps_ret (pe_and (pe_cmpR (op_eqD hr.units) (pv 3) (pe_ix ix_tup (pv 1) pe_int (fun _ _ => rfl)) (nomark _)) (pe_one (pe_callO O_fits_by hr (ha := (pa_cons (pe_callO O_part_kind hr (ha := (pa_cons (pv 0) (pa_cons (pv 3) pa_nil)))) (pa_cons (pe_ix ix_tup (pv 1) pe_int (fun _ _ => rfl)) (pa_cons (pv 4) pa_nil)))))))))))), ?_⟩
    obtain ⟨ds, b, t, ⟨k, x, c, hd, rfl, rfl⟩, q⟩ := h
    obtain ⟨v, u, y, rfl, tv, tu, ty⟩ := tp3 t
    have G := growS
    cases k with
    | unit => exact EvS.run G (es_ifF G (EvT.eq (evt_k0 G tv "pair") tq_unit_pair) (es_ifT G (evt_orT (b := true) (EvT.eq (evt_k0n G tv "either") tn_unit_either)) (es_retB G (evb_c G) q)))
    | num => exact EvS.run G (es_ifF G (EvT.eq (evt_k0 G tv "pair") tq_num_pair) (es_ifT G (evt_orT (b := true) (EvT.eq (evt_k0n G tv "either") tn_num_either)) (es_retB G (evb_c G) q)))
    | bag a => exact EvS.run G (es_ifF G (EvT.eq (evt_k0 G tv "pair") tq_bag_pair) (es_ifT G (evt_orT (b := true) (EvT.eq (evt_k0n G tv "either") tn_bag_either)) (es_retB G (evb_c G) q)))
    | pair a b =>
      have hdep : (Kd.pair a b).dep = max a.dep b.dep + 1 := rfl
      have tu' : Tp H u (.tuple [.str "pair", enc a x.1, enc b x.2]) := tu
      have ty' : Tp H y (.tuple [.str "pair", enc a.D (show Vl a.D × Vl b.D from c).1, enc b.D (show Vl a.D × Vl b.D from c).2]) := ty
      refine EvS.run G (es_ifT G (EvT.eq (evt_k0 G tv "pair") tq_pair_pair) (es_retB G (b := fits a x.1 (show Vl a.D × Vl b.D from c).1 && fits b x.2 (show Vl a.D × Vl b.D from c).2) (evb_and G ?_ fun _ => ?_) q))
      · exact evb_call G (pre := preFits n) (eva_cons G (ev_ix1 G (ds := [.str "pair", encK a, encK b]) (ev_var G tv)) (eva_two G (ev_ix1 G (ev_var G tu')) (ev_ix1 G (ev_var G ty')))) ⟨a, x.1, _, by omega, rfl, rfl⟩
      · exact evb_call G (pre := preFits n) (eva_cons G (ev_ix2 G (ds := [.str "pair", encK a, encK b]) (ev_var G tv)) (eva_two G (ev_ix2 G (ev_var G tu')) (ev_ix2 G (ev_var G ty')))) ⟨b, x.2, _, by omega, rfl, rfl⟩
    | either a b =>
      have hdep : (Kd.either a b).dep = max a.dep b.dep + 1 := rfl
      match c, ty, q with
      | .inr z, ty, q =>
        have ty' : Tp H y (.tuple [.str "right", enc (.either a b) z]) := ty
        refine EvS.run G (es_ifF G (EvT.eq (evt_k0 G tv "pair") tq_either_pair) (es_ifT G (evt_orF G (EvT.eq (evt_k0n G tv "either") tn_either_either) (evt_eqS G (ev_ix0 G (ev_var G ty')) (ev_str G) ok_right ok_right tq_right_right)) (es_retB G (evb_c G) ?_)))
        intro H1 g
        have := q H1 g
        cases x <;> exact this
      | .inl (.inl z), ty, q =>
        have ty' : Tp H y (.tuple [.str "left", .tuple [.str "left", enc a.D z]]) := ty
        refine EvS.run G (es_ifF G (EvT.eq (evt_k0 G tv "pair") tq_either_pair) (es_ifF G (evt_orF G (EvT.eq (evt_k0n G tv "either") tn_either_either) (evt_eqS G (ev_ix0 G (ev_var G ty')) (ev_str G) ok_left ok_right tq_left_right)) (es_two G (ev_ix1 G (ev_var G ty')) fun s1 m1 H1 g ts tm => ?_)))
        match x, tu, q with
        | .inl x, tu, q =>
          have tu' : Tp H1 u (.tuple [.str "left", enc a x]) := tu.mono (TK.same g)
          refine es_retB G (b := fits a x z) (evb_andT G (EvB.to (evb_eqS G (ev_var G ts) (ev_ix0 G (ev_var G tu')) ok_left ok_left) tq_left_left) ?_) fun H2 g2 => q H2 (g.trans g2)
          exact evb_call G (pre := preFits n) (eva_cons G (ev_call G (pre := prePart) (eva_two G (ev_var G (tv.mono (TK.same g))) (ev_var G ts)) ⟨.str "either", a, b, "left", rfl, .inl ⟨rfl, rfl⟩⟩) (eva_two G (ev_ix1 G (ev_var G tu')) (ev_var G tm))) ⟨a, x, z, by omega, rfl, rfl⟩
        | .inr x, tu, q =>
          have tu' : Tp H1 u (.tuple [.str "right", enc b x]) := tu.mono (TK.same g)
          exact es_retB G (b := false) (evb_andF (EvB.to (evb_eqS G (ev_var G ts) (ev_ix0 G (ev_var G tu')) ok_left ok_right) tq_left_right)) fun H2 g2 => q H2 (g.trans g2)
      | .inl (.inr z), ty, q =>
        have ty' : Tp H y (.tuple [.str "left", .tuple [.str "right", enc b.D z]]) := ty
        refine EvS.run G (es_ifF G (EvT.eq (evt_k0 G tv "pair") tq_either_pair) (es_ifF G (evt_orF G (EvT.eq (evt_k0n G tv "either") tn_either_either) (evt_eqS G (ev_ix0 G (ev_var G ty')) (ev_str G) ok_left ok_right tq_left_right)) (es_two G (ev_ix1 G (ev_var G ty')) fun s1 m1 H1 g ts tm => ?_)))
        match x, tu, q with
        | .inr x, tu, q =>
          have tu' : Tp H1 u (.tuple [.str "right", enc b x]) := tu.mono (TK.same g)
          refine es_retB G (b := fits b x z) (evb_andT G (EvB.to (evb_eqS G (ev_var G ts) (ev_ix0 G (ev_var G tu')) ok_right ok_right) tq_right_right) ?_) fun H2 g2 => q H2 (g.trans g2)
          exact evb_call G (pre := preFits n) (eva_cons G (ev_call G (pre := prePart) (eva_two G (ev_var G (tv.mono (TK.same g))) (ev_var G ts)) ⟨.str "either", a, b, "right", rfl, .inr ⟨rfl, rfl⟩⟩) (eva_two G (ev_ix1 G (ev_var G tu')) (ev_var G tm))) ⟨b, x, z, by omega, rfl, rfl⟩
        | .inl x, tu, q =>
          have tu' : Tp H1 u (.tuple [.str "left", enc a x]) := tu.mono (TK.same g)
          exact es_retB G (b := false) (evb_andF (EvB.to (evb_eqS G (ev_var G ts) (ev_ix0 G (ev_var G tu')) ok_right ok_left) tq_right_left)) fun H2 g2 => q H2 (g.trans g2)
end
end Cw
/-! part CwA6 -/
set_option Elab.async false
set_option linter.all false
set_option maxRecDepth 100000
set_option maxHeartbeats 1000000
/-! led_by, less_by, settled_by. -/
namespace Cw
open PySem PySem.Spec PyProof.Rows L2
theorem canon_nd {a : Kd} (pl : a.plain = true) {xs : List (Vl a × Int)} (h : Canon (lt a) xs) : (xs.map (·.1)).Nodup := List.pairwise_map.mpr (List.Pairwise.imp (fun h e => (ltO pl).ne h e) h.1)
section
variable {P : Program} {w : World} {K : PySem.W.Frag} {mg : Str → Option Value} {base : Heap}
/-! led_by -/
def preLed (n : Nat) : List PyData → PyData → Prop := fun ds d => ∃ (k : Kd) (v : Vl k) (c : Vl k.D), k.ok = true ∧ k.dep ≤ n ∧ k.dep ≤ 8 ∧ Gd k v ∧ Gd k.D c ∧ ds = [encK k, enc k v, enc k.D c] ∧ d = enc k (led k v c)
theorem sc_led_by : FnScope ["kind", "value", "change", "side", "more"] ["kind", "value", "change"] (defScope s_led_by) := ⟨rfl, rfl, rfl, by decide +kernel, rfl, by decide +kernel, by decide +kernel⟩
theorem ok_led_by (Z : Fs w K mg) : ∀ n, OkF P w K mg base "led_by" ["kind", "value", "change"] (n + 4) (spD (preLed n))
  | 0 => Z.f_led_by.ok (k := 3) sc_led_by (spD_len fun ds b ⟨k, v, c, _, _, _, _, _, e, _⟩ => by rw [e]; rfl) (fun _ _ _ _ _ _ us hl => match us, hl with | [_, _, _], _ => rfl) fun f cdv A outer s H vs Q E hr h => by
    obtain ⟨ds, b, t, ⟨k, v, c, _, hd, _⟩, q⟩ := h
    have := k.dep_pos
    exfalso
    omega
  | n + 1 => by
    have sc := sc_led_by
    have O_part_kind := ok_part_kind (P := P) (base := base) Z
    have O_plus_by := ok_plus_by (P := P) (base := base) Z
    have O_led_by := ok_led_by Z n
    refine Z.f_led_by.ok (k := n + 4) sc (spD_len fun ds b ⟨k, v, c, _, _, _, _, _, e, _⟩ => by rw [e]; rfl) (fun _ _ _ _ _ _ us hl => match us, hl with | [_, _, _], _ => rfl) fun f cdv A outer s H vs Q E hr h => ?_
    refine ⟨_, (pss_cons (ps_if (pt_cmpR (op_eqD hr.units) (pe_ix ix_tup (pv 0) pe_int (fun _ _ => rfl)) pe_str (nomark _)) (pss_one (ps_ret (pe_tupN pa_nil))) pss_nil) (pss_cons (ps_if (pt_cmpR (op_eqD hr.units) (pe_ix ix_tup (pv 0) pe_int (fun _ _ => rfl)) pe_str (nomark _)) (pss_one (ps_ret (pe_tupN (pa_cons pe_str (pa_cons (pe_callO O_led_by hr (ha := (pa_cons (pe_ix ix_tup (pv 0) pe_int (fun _ _ => rfl)) (pa_cons (pe_ix ix_tup (pv 1) pe_int (fun _ _ => rfl)) (pa_cons (pe_ix ix_tup (pv 2) pe_int (fun _ _ => rfl)) pa_nil))))) (pa_cons (pe_callO O_led_by hr (ha := (pa_cons (pe_ix ix_tup (pv 0) pe_int (fun _ _ => rfl)) (pa_cons (pe_ix ix_tup (pv 1) pe_int (fun _ _ => rfl)) (pa_cons (pe_ix ix_tup (pv 2) pe_int (fun _ _ => rfl)) pa_nil))))) pa_nil)))))) pss_nil) (pss_cons (ps_if (pt_cmpR (op_neD hr.units) (pe_ix ix_tup (pv 0) pe_int (fun _ _ => rfl)) pe_str (nomark _)) (pss_one (ps_ret (pe_callO O_plus_by hr (ha := (pa_cons (pv 1) (pa_cons (pv 2) pa_nil)))))) pss_nil) (pss_cons (ps_if (pt_cmpR (op_eqD hr.units) (pe_ix ix_tup (pv 2) pe_int (fun _ _ => rfl)) pe_str (nomark _)) (pss_one (ps_ret (pe_ix ix_tup (pv 2) pe_int (fun _ _ => rfl)))) pss_nil) (pss_cons (ps_asg (pe_ix ix_tup (pv 2) pe_int (fun _ _ => rfl)) (pg_tup rfl (pgs_cons (pg_name sc.nd (i := 3) rfl (by first | exact Or.inl rfl | exact Or.inr rfl)) (pgs_cons (pg_name sc.nd (i := 4) rfl (by first | exact Or.inl rfl | exact Or.inr rfl)) pgs_nil)))) (pss_one (ps_ret (pe_ifExp (pt_cmpR (op_eqD hr.units) (pv 3) (pe_ix ix_tup (pv 1) pe_int (fun _ _ => rfl)) (nomark _)) (pe_tupN (pa_cons (pv 3) (pa_cons (pe_callO O_led_by hr (ha := (pa_cons (pe_callO O_part_kind hr (ha := (pa_cons (pv 0) (pa_cons (pv 3) pa_nil)))) (pa_cons (pe_ix ix_tup (pv 1) pe_int (fun _ _ => rfl)) (pa_cons (pv 4) pa_nil))))) pa_nil))) (pv 1))))))))), ?_⟩
    obtain ⟨ds, b, t, ⟨k, x, c, ok, hd, h8, gv, gc, rfl, rfl⟩, q⟩ := h
    obtain ⟨v, u, y, rfl, tv, tu, ty⟩ := tp3 t
    have G := growS
    cases k with
    | unit => exact EvS.run G (es_ifT G (EvT.eq (evt_k0 G tv "unit") tq_unit_unit) (es_ret G (ev_tup G (eva_nil G)) q))
    | num => exact EvS.run G (es_ifF G (EvT.eq (evt_k0 G tv "unit") tq_num_unit) (es_ifF G (EvT.eq (evt_k0 G tv "pair") tq_num_pair) (es_ifT G (EvT.eq (evt_k0n G tv "either") tn_num_either) (es_ret G (ev_call G (pre := prePlus) (eva_two G (ev_var G tu) (ev_var G ty)) (.inl ⟨toI x, toI c, rfl, rfl⟩)) q))))
    | bag a =>
      have hdep : (Kd.bag a).dep = a.dep + 1 := rfl
      refine EvS.run G (es_ifF G (EvT.eq (evt_k0 G tv "unit") tq_bag_unit) (es_ifF G (EvT.eq (evt_k0 G tv "pair") tq_bag_pair) (es_ifT G (EvT.eq (evt_k0n G tv "either") tn_bag_either) (es_ret G (ev_call G (pre := prePlus) (eva_two G (ev_var G tu) (ev_var G ty)) (.inr ⟨a, x, c, ⟨ok, by omega, canon_nd ok gv.ok, ?_⟩, rfl, rfl⟩)) q))))
      have h1 : (show List (Vl a × Int) from x).length ≤ 30 := gv.sm.1
      have h2 : (show List (Vl a × Int) from c).length ≤ 30 := gc.sm.1
      have h3 : (show List (Vl a × Int) from x).length + (show List (Vl a × Int) from c).length < 64 := by omega
      exact h3
    | pair a b =>
      have hdep : (Kd.pair a b).dep = max a.dep b.dep + 1 := rfl
      obtain ⟨o1, o2⟩ := Bool.and_eq_true_iff.mp (show (a.ok && b.ok) = true from ok)
      have tu' : Tp H u (.tuple [.str "pair", enc a x.1, enc b x.2]) := tu
      have ty' : Tp H y (.tuple [.str "pair", enc a.D (show Vl a.D × Vl b.D from c).1, enc b.D (show Vl a.D × Vl b.D from c).2]) := ty
      refine EvS.run G (es_ifF G (EvT.eq (evt_k0 G tv "unit") tq_pair_unit) (es_ifT G (EvT.eq (evt_k0 G tv "pair") tq_pair_pair) (es_ret G (ev_tup G (ds := [.str "pair", enc a (led a x.1 (show Vl a.D × Vl b.D from c).1), enc b (led b x.2 (show Vl a.D × Vl b.D from c).2)]) (eva_cons G (ev_str G) (eva_two G ?_ ?_)) (show 3 ≤ 1000 by decide)) q)))
      · exact ev_call G (pre := preLed n) (eva_cons G (ev_ix1 G (ds := [.str "pair", encK a, encK b]) (ev_var G tv)) (eva_two G (ev_ix1 G (ev_var G tu')) (ev_ix1 G (ev_var G ty')))) ⟨a, x.1, _, o1, by omega, by omega, ⟨gv.ok.1, gv.sm.1⟩, ⟨gc.ok.1, gc.sm.1⟩, rfl, rfl⟩
      · exact ev_call G (pre := preLed n) (eva_cons G (ev_ix2 G (ds := [.str "pair", encK a, encK b]) (ev_var G tv)) (eva_two G (ev_ix2 G (ev_var G tu')) (ev_ix2 G (ev_var G ty')))) ⟨b, x.2, _, o2, by omega, by omega, ⟨gv.ok.2, gv.sm.2⟩, ⟨gc.ok.2, gc.sm.2⟩, rfl, rfl⟩
    | either a b =>
      have hdep : (Kd.either a b).dep = max a.dep b.dep + 1 := rfl
      obtain ⟨o1, o2⟩ := Bool.and_eq_true_iff.mp (show (a.ok && b.ok) = true from ok)
      match c, gc, ty, q with
      | .inr z, gc, ty, q =>
        have ty' : Tp H y (.tuple [.str "right", enc (.either a b) z]) := ty
        refine EvS.run G (es_ifF G (EvT.eq (evt_k0 G tv "unit") tq_either_unit) (es_ifF G (EvT.eq (evt_k0 G tv "pair") tq_either_pair) (es_ifF G (EvT.eq (evt_k0n G tv "either") tn_either_either) (es_ifT G (evt_eqS G (ev_ix0 G (ev_var G ty')) (ev_str G) ok_right ok_right tq_right_right) (es_ret G (ev_ix1 G (ev_var G ty')) ?_)))))
        intro v1 H1 g t1
        refine q v1 H1 g ?_
        cases x <;> exact t1
      | .inl (.inl z), gc, ty, q =>
        have ty' : Tp H y (.tuple [.str "left", .tuple [.str "left", enc a.D z]]) := ty
        refine EvS.run G (es_ifF G (EvT.eq (evt_k0 G tv "unit") tq_either_unit) (es_ifF G (EvT.eq (evt_k0 G tv "pair") tq_either_pair) (es_ifF G (EvT.eq (evt_k0n G tv "either") tn_either_either) (es_ifF G (evt_eqS G (ev_ix0 G (ev_var G ty')) (ev_str G) ok_left ok_right tq_left_right) (es_two G (ev_ix1 G (ev_var G ty')) fun s1 m1 H1 g ts tm => ?_)))))
        match x, tu, gv, q with
        | .inl x, tu, gv, q =>
          have tu' : Tp H1 u (.tuple [.str "left", enc a x]) := tu.mono (TK.same g)
          refine es_ret G (d := .tuple [.str "left", enc a (led a x z)]) (ev_ifT G (evt_eqS G (ev_var G ts) (ev_ix0 G (ev_var G tu')) ok_left ok_left tq_left_left) (ev_tup G (eva_two G (ev_var G ts) ?_) (show 2 ≤ 1000 by decide))) fun v2 H2 g2 => q v2 H2 (g.trans g2)
          exact ev_call G (pre := preLed n) (eva_cons G (ev_call G (pre := prePart) (eva_two G (ev_var G (tv.mono (TK.same g))) (ev_var G ts)) ⟨.str "either", a, b, "left", rfl, .inl ⟨rfl, rfl⟩⟩) (eva_two G (ev_ix1 G (ev_var G tu')) (ev_var G tm))) ⟨a, x, z, o1, by omega, by omega, ⟨gv.ok, gv.sm⟩, ⟨gc.ok, gc.sm⟩, rfl, rfl⟩
        | .inr x, tu, gv, q =>
          have tu' : Tp H1 u (.tuple [.str "right", enc b x]) := tu.mono (TK.same g)
          exact es_ret G (d := .tuple [.str "right", enc b x]) (ev_ifF G (evt_eqS G (ev_var G ts) (ev_ix0 G (ev_var G tu')) ok_left ok_right tq_left_right) (ev_var G tu')) fun v2 H2 g2 => q v2 H2 (g.trans g2)
      | .inl (.inr z), gc, ty, q =>
        have ty' : Tp H y (.tuple [.str "left", .tuple [.str "right", enc b.D z]]) := ty
        refine EvS.run G (es_ifF G (EvT.eq (evt_k0 G tv "unit") tq_either_unit) (es_ifF G (EvT.eq (evt_k0 G tv "pair") tq_either_pair) (es_ifF G (EvT.eq (evt_k0n G tv "either") tn_either_either) (es_ifF G (evt_eqS G (ev_ix0 G (ev_var G ty')) (ev_str G) ok_left ok_right tq_left_right) (es_two G (ev_ix1 G (ev_var G ty')) fun s1 m1 H1 g ts tm => ?_)))))
        match x, tu, gv, q with
        | .inr x, tu, gv, q =>
          have tu' : Tp H1 u (.tuple [.str "right", enc b x]) := tu.mono (TK.same g)
          refine es_ret G (d := .tuple [.str "right", enc b (led b x z)]) (ev_ifT G (evt_eqS G (ev_var G ts) (ev_ix0 G (ev_var G tu')) ok_right ok_right tq_right_right) (ev_tup G (eva_two G (ev_var G ts) ?_) (show 2 ≤ 1000 by decide))) fun v2 H2 g2 => q v2 H2 (g.trans g2)
          exact ev_call G (pre := preLed n) (eva_cons G (ev_call G (pre := prePart) (eva_two G (ev_var G (tv.mono (TK.same g))) (ev_var G ts)) ⟨.str "either", a, b, "right", rfl, .inr ⟨rfl, rfl⟩⟩) (eva_two G (ev_ix1 G (ev_var G tu')) (ev_var G tm))) ⟨b, x, z, o2, by omega, by omega, ⟨gv.ok, gv.sm⟩, ⟨gc.ok, gc.sm⟩, rfl, rfl⟩
        | .inl x, tu, gv, q =>
          have tu' : Tp H1 u (.tuple [.str "left", enc a x]) := tu.mono (TK.same g)
          exact es_ret G (d := .tuple [.str "left", enc a x]) (ev_ifF G (evt_eqS G (ev_var G ts) (ev_ix0 G (ev_var G tu')) ok_right ok_left tq_right_left) (ev_var G tu')) fun v2 H2 g2 => q v2 H2 (g.trans g2)
/-! less_by -/
def preLess (n : Nat) : List PyData → PyData → Prop := fun ds d => ∃ (k : Kd) (x v : Vl k), k.ok = true ∧ k.dep ≤ n ∧ k.dep ≤ 8 ∧ Gd k x ∧ Gd k v ∧ ds = [encK k, enc k x, enc k v] ∧ d = enc k.D (less k x v)
theorem neg_len {a : Kd} (xs : List (Vl a × Int)) : (negB xs).length = xs.length := List.length_map _
theorem sc_less_by : FnScope ["kind", "new", "old"] ["kind", "new", "old"] (defScope s_less_by) := ⟨rfl, rfl, rfl, by decide +kernel, rfl, by decide +kernel, by decide +kernel⟩
theorem ok_less_by (Z : Fs w K mg) : ∀ n, OkF P w K mg base "less_by" ["kind", "new", "old"] (n + 4) (spD (preLess n))
  | 0 => Z.f_less_by.ok (k := 3) sc_less_by (spD_len fun ds b ⟨k, v, c, _, _, _, _, _, e, _⟩ => by rw [e]; rfl) (fun _ _ _ _ _ _ us hl => match us, hl with | [_, _, _], _ => rfl) fun f cdv A outer s H vs Q E hr h => by
    obtain ⟨ds, b, t, ⟨k, v, c, _, hd, _⟩, q⟩ := h
    have := k.dep_pos
    exfalso
    omega
  | n + 1 => by
    have sc := sc_less_by
    have O_part_kind := ok_part_kind (P := P) (base := base) Z
    have O_plus_by := ok_plus_by (P := P) (base := base) Z
    have O_times_by := ok_times_by (P := P) (base := base) Z
    have O_less_by := ok_less_by Z n
    refine Z.f_less_by.ok (k := n + 4) sc (spD_len fun ds b ⟨k, v, c, _, _, _, _, _, e, _⟩ => by rw [e]; rfl) (fun _ _ _ _ _ _ us hl => match us, hl with | [_, _, _], _ => rfl) fun f cdv A outer s H vs Q E hr h => ?_
    refine ⟨_, (pss_cons (ps_if (pt_cmpR (op_eqD hr.units) (pe_ix ix_tup (pv 0) pe_int (fun _ _ => rfl)) pe_str (nomark _)) (pss_one (ps_ret (pe_tupN pa_nil))) pss_nil) (pss_cons (ps_if (pt_cmpR (op_eqD hr.units) (pe_ix ix_tup (pv 0) pe_int (fun _ _ => rfl)) pe_str (nomark _)) (pss_one (ps_ret (pe_tupN (pa_cons pe_str (pa_cons (pe_callO O_less_by hr (ha := (pa_cons (pe_ix ix_tup (pv 0) pe_int (fun _ _ => rfl)) (pa_cons (pe_ix ix_tup (pv 1) pe_int (fun _ _ => rfl)) (pa_cons (pe_ix ix_tup (pv 2) pe_int (fun _ _ => rfl)) pa_nil))))) (pa_cons (pe_callO O_less_by hr (ha := (pa_cons (pe_ix ix_tup (pv 0) pe_int (fun _ _ => rfl)) (pa_cons (pe_ix ix_tup (pv 1) pe_int (fun _ _ => rfl)) (pa_cons (pe_ix ix_tup (pv 2) pe_int (fun _ _ => rfl)) pa_nil))))) pa_nil)))))) pss_nil) (pss_cons (ps_if (pt_cmpR (op_neD hr.units) (pe_ix ix_tup (pv 0) pe_int (fun _ _ => rfl)) pe_str (nomark _)) (pss_one (ps_ret (pe_callO O_plus_by hr (ha := (pa_cons (pv 1) (pa_cons (pe_callO O_times_by hr (ha := (pa_cons (pe_un un_neg pe_int) (pa_cons (pv 2) pa_nil)))) pa_nil)))))) pss_nil) (pss_cons (ps_if (pt_cmpR (op_neD hr.units) (pe_ix ix_tup (pv 1) pe_int (fun _ _ => rfl)) (pe_ix ix_tup (pv 2) pe_int (fun _ _ => rfl)) (nomark _)) (pss_one (ps_ret (pe_tupN (pa_cons pe_str (pa_cons (pv 1) pa_nil))))) pss_nil) (pss_one (ps_ret (pe_tupN (pa_cons pe_str (pa_cons (pe_tupN (pa_cons (pe_ix ix_tup (pv 1) pe_int (fun _ _ => rfl)) (pa_cons (pe_callO O_less_by hr (ha := (pa_cons (pe_callO O_part_kind hr (ha := (pa_cons (pv 0) (pa_cons (pe_ix ix_tup (pv 1) pe_int (fun _ _ => rfl)) pa_nil)))) (pa_cons (pe_ix ix_tup (pv 1) pe_int (fun _ _ => rfl)) (pa_cons (pe_ix ix_tup (pv 2) pe_int (fun _ _ => rfl)) pa_nil))))) pa_nil))) pa_nil))))))))), ?_⟩
    obtain ⟨ds, b, t, ⟨k, x, c, ok, hd, h8, gv, gc, rfl, rfl⟩, q⟩ := h
    obtain ⟨v, u, y, rfl, tv, tu, ty⟩ := tp3 t
    have G := growS
    cases k with
    | unit => exact EvS.run G (es_ifT G (EvT.eq (evt_k0 G tv "unit") tq_unit_unit) (es_ret G (ev_tup G (eva_nil G)) q))
    | num => exact EvS.run G (es_ifF G (EvT.eq (evt_k0 G tv "unit") tq_num_unit) (es_ifF G (EvT.eq (evt_k0 G tv "pair") tq_num_pair) (es_ifT G (EvT.eq (evt_k0n G tv "either") tn_num_either) (es_ret G (ev_call G (pre := prePlus) (eva_two G (ev_var G tu) (ev_call G (pre := preTimes) (eva_two G (ev_un G (ev_int G)) (ev_var G ty)) (.inl ⟨toI c, rfl, rfl⟩))) (.inl ⟨toI x, -1 * toI c, rfl, rfl⟩)) q))))
    | bag a =>
      have hdep : (Kd.bag a).dep = a.dep + 1 := rfl
      have h1 : (show List (Vl a × Int) from x).length ≤ 30 := gv.sm.1
      have h2 : (show List (Vl a × Int) from c).length ≤ 30 := gc.sm.1
      refine EvS.run G (es_ifF G (EvT.eq (evt_k0 G tv "unit") tq_bag_unit) (es_ifF G (EvT.eq (evt_k0 G tv "pair") tq_bag_pair) (es_ifT G (EvT.eq (evt_k0n G tv "either") tn_bag_either) (es_ret G (ev_call G (pre := prePlus) (eva_two G (ev_var G tu) (ev_call G (pre := preTimes) (eva_two G (ev_un G (ev_int G)) (ev_var G ty)) (.inr ⟨a, c, by omega, Nat.le_trans h2 (by decide), rfl, rfl⟩))) (.inr ⟨a, x, negB c, ⟨ok, by omega, canon_nd ok gv.ok, ?_⟩, rfl, rfl⟩)) q))))
      have h3 : (show List (Vl a × Int) from x).length + (negB (show List (Vl a × Int) from c)).length < 64 := by rw [neg_len]; omega
      exact h3
    | pair a b =>
      have hdep : (Kd.pair a b).dep = max a.dep b.dep + 1 := rfl
      obtain ⟨o1, o2⟩ := Bool.and_eq_true_iff.mp (show (a.ok && b.ok) = true from ok)
      have tu' : Tp H u (.tuple [.str "pair", enc a x.1, enc b x.2]) := tu
      have ty' : Tp H y (.tuple [.str "pair", enc a c.1, enc b c.2]) := ty
      refine EvS.run G (es_ifF G (EvT.eq (evt_k0 G tv "unit") tq_pair_unit) (es_ifT G (EvT.eq (evt_k0 G tv "pair") tq_pair_pair) (es_ret G (ev_tup G (ds := [.str "pair", enc a.D (less a x.1 c.1), enc b.D (less b x.2 c.2)]) (eva_cons G (ev_str G) (eva_two G ?_ ?_)) (show 3 ≤ 1000 by decide)) q)))
      · exact ev_call G (pre := preLess n) (eva_cons G (ev_ix1 G (ds := [.str "pair", encK a, encK b]) (ev_var G tv)) (eva_two G (ev_ix1 G (ev_var G tu')) (ev_ix1 G (ev_var G ty')))) ⟨a, x.1, c.1, o1, by omega, by omega, ⟨gv.ok.1, gv.sm.1⟩, ⟨gc.ok.1, gc.sm.1⟩, rfl, rfl⟩
      · exact ev_call G (pre := preLess n) (eva_cons G (ev_ix2 G (ds := [.str "pair", encK a, encK b]) (ev_var G tv)) (eva_two G (ev_ix2 G (ev_var G tu')) (ev_ix2 G (ev_var G ty')))) ⟨b, x.2, c.2, o2, by omega, by omega, ⟨gv.ok.2, gv.sm.2⟩, ⟨gc.ok.2, gc.sm.2⟩, rfl, rfl⟩
    | either a b =>
      have hdep : (Kd.either a b).dep = max a.dep b.dep + 1 := rfl
      obtain ⟨o1, o2⟩ := Bool.and_eq_true_iff.mp (show (a.ok && b.ok) = true from ok)
      match x, c, gv, gc, tu, ty, q with
      | .inl x, .inl z, gv, gc, tu, ty, q =>
        have tu' : Tp H u (.tuple [.str "left", enc a x]) := tu
        have ty' : Tp H y (.tuple [.str "left", enc a z]) := ty
        refine EvS.run G (es_ifF G (EvT.eq (evt_k0 G tv "unit") tq_either_unit) (es_ifF G (EvT.eq (evt_k0 G tv "pair") tq_either_pair) (es_ifF G (EvT.eq (evt_k0n G tv "either") tn_either_either) (es_ifF G (evt_neS G (ev_ix0 G (ev_var G tu')) (ev_ix0 G (ev_var G ty')) ok_left ok_left tn_left_left) (es_ret G (d := .tuple [.str "left", .tuple [.str "left", enc a.D (less a x z)]]) (ev_tup G (eva_two G (ev_str G) (ev_tup G (eva_two G (ev_ix0 G (ev_var G tu')) ?_) (show 2 ≤ 1000 by decide))) (show 2 ≤ 1000 by decide)) q)))))
        exact ev_call G (pre := preLess n) (eva_cons G (ev_call G (pre := prePart) (eva_two G (ev_var G tv) (ev_ix0 G (ev_var G tu'))) ⟨.str "either", a, b, "left", rfl, .inl ⟨rfl, rfl⟩⟩) (eva_two G (ev_ix1 G (ev_var G tu')) (ev_ix1 G (ev_var G ty')))) ⟨a, x, z, o1, by omega, by omega, ⟨gv.ok, gv.sm⟩, ⟨gc.ok, gc.sm⟩, rfl, rfl⟩
      | .inr x, .inr z, gv, gc, tu, ty, q =>
        have tu' : Tp H u (.tuple [.str "right", enc b x]) := tu
        have ty' : Tp H y (.tuple [.str "right", enc b z]) := ty
        refine EvS.run G (es_ifF G (EvT.eq (evt_k0 G tv "unit") tq_either_unit) (es_ifF G (EvT.eq (evt_k0 G tv "pair") tq_either_pair) (es_ifF G (EvT.eq (evt_k0n G tv "either") tn_either_either) (es_ifF G (evt_neS G (ev_ix0 G (ev_var G tu')) (ev_ix0 G (ev_var G ty')) ok_right ok_right tn_right_right) (es_ret G (d := .tuple [.str "left", .tuple [.str "right", enc b.D (less b x z)]]) (ev_tup G (eva_two G (ev_str G) (ev_tup G (eva_two G (ev_ix0 G (ev_var G tu')) ?_) (show 2 ≤ 1000 by decide))) (show 2 ≤ 1000 by decide)) q)))))
        exact ev_call G (pre := preLess n) (eva_cons G (ev_call G (pre := prePart) (eva_two G (ev_var G tv) (ev_ix0 G (ev_var G tu'))) ⟨.str "either", a, b, "right", rfl, .inr ⟨rfl, rfl⟩⟩) (eva_two G (ev_ix1 G (ev_var G tu')) (ev_ix1 G (ev_var G ty')))) ⟨b, x, z, o2, by omega, by omega, ⟨gv.ok, gv.sm⟩, ⟨gc.ok, gc.sm⟩, rfl, rfl⟩
      | .inl x, .inr z, gv, gc, tu, ty, q =>
        have tu' : Tp H u (.tuple [.str "left", enc a x]) := tu
        have ty' : Tp H y (.tuple [.str "right", enc b z]) := ty
        exact EvS.run G (es_ifF G (EvT.eq (evt_k0 G tv "unit") tq_either_unit) (es_ifF G (EvT.eq (evt_k0 G tv "pair") tq_either_pair) (es_ifF G (EvT.eq (evt_k0n G tv "either") tn_either_either) (es_ifT G (evt_neS G (ev_ix0 G (ev_var G tu')) (ev_ix0 G (ev_var G ty')) ok_left ok_right tn_left_right) (es_ret G (d := .tuple [.str "right", .tuple [.str "left", enc a x]]) (ev_tup G (eva_two G (ev_str G) (ev_var G tu')) (show 2 ≤ 1000 by decide)) q)))))
      | .inr x, .inl z, gv, gc, tu, ty, q =>
        have tu' : Tp H u (.tuple [.str "right", enc b x]) := tu
        have ty' : Tp H y (.tuple [.str "left", enc a z]) := ty
        exact EvS.run G (es_ifF G (EvT.eq (evt_k0 G tv "unit") tq_either_unit) (es_ifF G (EvT.eq (evt_k0 G tv "pair") tq_either_pair) (es_ifF G (EvT.eq (evt_k0n G tv "either") tn_either_either) (es_ifT G (evt_neS G (ev_ix0 G (ev_var G tu')) (ev_ix0 G (ev_var G ty')) ok_right ok_left tn_right_left) (es_ret G (d := .tuple [.str "right", .tuple [.str "right", enc b x]]) (ev_tup G (eva_two G (ev_str G) (ev_var G tu')) (show 2 ≤ 1000 by decide)) q)))))
end
end Cw
/-! part CwA7 -/
set_option Elab.async false
set_option linter.all false
set_option maxRecDepth 100000
set_option maxHeartbeats 1000000
/-! The checks; settled, are_alike, changes_nothing. Kinds of depth 4 at most. -/
namespace Cw
open PySem PySem.Spec PyProof.Rows L2
/-- a kind that the law draws -/
structure Kk (k : Kd) : Prop where
  ok : k.ok = true
  dp : k.dep ≤ 4
section
variable {P : Program} {w : World} {K : PySem.W.Frag} {mg : Str → Option Value} {base : Heap}
/-! settled_by -/
def preSetBy : List PyData → PyData → Prop := fun ds d => ∃ (k : Kd) (v : Vl k) (c : Vl k.D), Kk k ∧ Gd k v ∧ Gd k.D c ∧ Gd k (led k v c) ∧ ds = [encK k, enc k v, enc k.D c] ∧ d = enc k.D (less k (led k v c) v)
theorem sc_settled_by : FnScope ["kind", "value", "change"] ["kind", "value", "change"] (defScope s_settled_by) := ⟨rfl, rfl, rfl, by decide +kernel, rfl, by decide +kernel, by decide +kernel⟩
theorem ok_settled_by (Z : Fs w K mg) : OkF P w K mg base "settled_by" ["kind", "value", "change"] 9 (spD preSetBy) := by
  have sc := sc_settled_by
  have O_led_by := ok_led_by (P := P) (base := base) Z 4
  have O_less_by := ok_less_by (P := P) (base := base) Z 4
  refine Z.f_settled_by.ok sc (spD_len fun ds b ⟨k, v, c, _, _, _, _, e, _⟩ => by rw [e]; rfl) (fun _ _ _ _ _ _ us hl => match us, hl with | [_, _, _], _ => rfl) fun f cdv A outer s H vs Q E hr h => ?_
  refine ⟨_, (pss_one (ps_ret (pe_callO O_less_by hr (ha := (pa_cons (pv 0) (pa_cons (pe_callO O_led_by hr (ha := (pa_cons (pv 0) (pa_cons (pv 1) (pa_cons (pv 2) pa_nil))))) (pa_cons (pv 1) pa_nil))))))), ?_⟩
  obtain ⟨ds, b, t, ⟨k, x, c, kk, gv, gc, gl, rfl, rfl⟩, q⟩ := h
  obtain ⟨v, u, y, rfl, tv, tu, ty⟩ := tp3 t
  have G := growS
  have h4 := kk.dp
  exact EvS.run G (es_ret G (ev_call G (pre := preLess 4) (eva_cons G (ev_var G tv) (eva_two G (ev_call G (pre := preLed 4) (eva_cons G (ev_var G tv) (eva_two G (ev_var G tu) (ev_var G ty))) ⟨k, x, c, kk.ok, h4, by omega, gv, gc, rfl, rfl⟩) (ev_var G tu))) ⟨k, _, x, kk.ok, h4, by omega, gl, gv, rfl, rfl⟩) q)
/-! checks -/
def spKind (K : PySem.W.Frag) : Sp := fun vs H Q _ => ∃ (v : V) (k : Kd), vs = [v, .ref (He.ga K "is_data")] ∧ Kk k ∧ Tp H v (encK k) ∧ ∀ H', Same H H' → Q .non H'
theorem sc_check_kind_that : FnScope ["value", "is_right"] ["value", "is_right"] (defScope s_check_kind_that) := ⟨rfl, rfl, rfl, by decide +kernel, rfl, by decide +kernel, by decide +kernel⟩
theorem ok_check_kind_that (Z : Fs w K mg) : OkF P w K mg base "check_kind_that" ["value", "is_right"] 7 (spKind K) := by
  have sc := sc_check_kind_that
  have O_is_kinded := ok_is_kinded (P := P) (base := base) Z 4
  have O_is_data := ok_is_data (P := P) (base := base) Z 4
  refine Z.f_check_kind_that.ok sc (fun vs H Q E ⟨v, k, e, _⟩ => by rw [e]; rfl) (fun _ _ _ _ _ _ us hl => match us, hl with | [_, _], _ => rfl) fun f cdv A outer s H vs Q E hr h => ?_
  refine ⟨_, (pss_one (ps_if (PW.pt (pw_or (pt_not (pt_val (pe_callD O_is_kinded hr (ha := (pa_cons (pv 0) pa_nil))))) (pw_or1 (pt_not (pt_val (pe_callLO O_is_data hr (i := 1) (ha := (pa_cons (pv 0) pa_nil)))))))) (pss_one ps_never) pss_nil)), ?_⟩
  obtain ⟨v, k, rfl, kk, tv, q⟩ := h
  have G := growS
  have h4 := kk.dp
  refine EvS.run G (es_ifF1 G (evt_orF G (evt_notT (evt_B (evb_callD G (pre := preKinded 4) (b := true) (eva_one G (ev_var G tv)) ⟨k, 100, kk.ok, h4, by decide, by omega, rfl, rfl⟩))) (evt_notT (evt_B ?_))) q)
  intro H1 g Q1 q1
  exact ⟨rfl, v, rfl, [encK k], true, .cons (tv.mono (TK.same g)) .nil, ⟨k, h4, rfl, rfl⟩, fun H2 g2 => q1 H2 g2⟩
def preKd : List PyData → Prop := fun ds => ∃ k : Kd, Kk k ∧ ds = [encK k]
theorem sc_check_data : FnScope ["value"] ["value"] (defScope s_check_data) := ⟨rfl, rfl, rfl, by decide +kernel, rfl, by decide +kernel, by decide +kernel⟩
theorem ok_check_data (Z : Fs w K mg) : OkF P w K mg base "check_data" ["value"] 8 (spN preKd) := by
  have sc := sc_check_data
  have O_check_kind_that := ok_check_kind_that (P := P) (base := base) Z
  have O_is_data := ok_is_data (P := P) (base := base) Z 4
  refine Z.f_check_data.ok sc (spN_len fun ds ⟨k, _, e⟩ => by rw [e]; rfl) (fun _ _ _ _ _ _ us hl => match us, hl with | [_], _ => rfl) fun f cdv A outer s H vs Q E hr h => ?_
  refine ⟨_, (pss_one (ps_expr (pe_callO O_check_kind_that hr (ha := (pa_cons (pv 0) (pa_cons (pe_globO O_is_data) pa_nil)))))), ?_⟩
  obtain ⟨ds, t, ⟨k, kk, rfl⟩, q⟩ := h
  obtain ⟨v, rfl, tv⟩ := tp1 t
  exact ⟨v, rfl, v, k, rfl, kk, tv, q⟩
def preKv : List PyData → Prop := fun ds => ∃ (k : Kd) (v : Vl k), Kk k ∧ Gd k v ∧ ds = [encK k, enc k v]
theorem sc_check_value : FnScope ["kind", "value"] ["kind", "value"] (defScope s_check_value) := ⟨rfl, rfl, rfl, by decide +kernel, rfl, by decide +kernel, by decide +kernel⟩
theorem ok_check_value (Z : Fs w K mg) : OkF P w K mg base "check_value" ["kind", "value"] 16 (spN preKv) := by
  have sc := sc_check_value
  have O_is_valued := ok_is_valued (P := P) (base := base) Z 4
  refine Z.f_check_value.ok sc (spN_len fun ds ⟨k, v, _, _, e⟩ => by rw [e]; rfl) (fun _ _ _ _ _ _ us hl => match us, hl with | [_, _], _ => rfl) fun f cdv A outer s H vs Q E hr h => ?_
  refine ⟨_, (pss_one (ps_if (pt_not (pt_val (pe_callO O_is_valued hr (ha := (pa_cons (pv 0) (pa_cons (pv 1) pa_nil)))))) (pss_one ps_never) pss_nil)), ?_⟩
  obtain ⟨ds, t, ⟨k, x, kk, gd, rfl⟩, q⟩ := h
  obtain ⟨v, u, rfl, tv, tu⟩ := tp2 t
  have G := growS
  have h4 := kk.dp
  exact EvS.run G (es_ifF1 G (evt_notT (evt_B (evb_call G (pre := preValued 4) (eva_two G (ev_var G tv) (ev_var G tu)) ⟨k, x, kk.ok, h4, by omega, gd, rfl, rfl⟩))) q)
theorem sc_check_valued : FnScope ["kind", "value"] ["kind", "value"] (defScope s_check_valued) := ⟨rfl, rfl, rfl, by decide +kernel, rfl, by decide +kernel, by decide +kernel⟩
theorem ok_check_valued (Z : Fs w K mg) : OkF P w K mg base "check_valued" ["kind", "value"] 17 (spN preKv) := by
  have sc := sc_check_valued
  have O_check_data := ok_check_data (P := P) (base := base) Z
  have O_check_value := ok_check_value (P := P) (base := base) Z
  refine Z.f_check_valued.ok sc (spN_len fun ds ⟨k, v, _, _, e⟩ => by rw [e]; rfl) (fun _ _ _ _ _ _ us hl => match us, hl with | [_, _], _ => rfl) fun f cdv A outer s H vs Q E hr h => ?_
  refine ⟨_, (pss_cons (ps_expr (pe_callO O_check_data hr (ha := (pa_cons (pv 0) pa_nil)))) (pss_one (ps_expr (pe_callO O_check_value hr (ha := (pa_cons (pv 0) (pa_cons (pv 1) pa_nil))))))), ?_⟩
  obtain ⟨ds, t, ⟨k, x, kk, gd, rfl⟩, q⟩ := h
  obtain ⟨v, u, rfl, tv, tu⟩ := tp2 t
  have G := growS
  exact EvS.run G (es_drop G (evn_call G (pre := preKd) (eva_one G (ev_var G tv)) ⟨k, kk, rfl⟩) (es_drop1 G (evn_call G (pre := preKv) (eva_two G (ev_var G tv) (ev_var G tu)) ⟨k, x, kk, gd, rfl⟩) q))
def preKc : List PyData → Prop := fun ds => ∃ (k : Kd) (c : Vl k.D), Kk k ∧ Gd k.D c ∧ ds = [encK k, enc k.D c]
theorem sc_check_change : FnScope ["kind", "change"] ["kind", "change"] (defScope s_check_change) := ⟨rfl, rfl, rfl, by decide +kernel, rfl, by decide +kernel, by decide +kernel⟩
theorem ok_check_change (Z : Fs w K mg) : OkF P w K mg base "check_change" ["kind", "change"] 17 (spN preKc) := by
  have sc := sc_check_change
  have O_is_change_by := ok_is_change_by (P := P) (base := base) Z 4
  refine Z.f_check_change.ok sc (spN_len fun ds ⟨k, v, _, _, e⟩ => by rw [e]; rfl) (fun _ _ _ _ _ _ us hl => match us, hl with | [_, _], _ => rfl) fun f cdv A outer s H vs Q E hr h => ?_
  refine ⟨_, (pss_one (ps_if (pt_not (pt_val (pe_callO O_is_change_by hr (ha := (pa_cons (pv 0) (pa_cons (pv 1) pa_nil)))))) (pss_one ps_never) pss_nil)), ?_⟩
  obtain ⟨ds, t, ⟨k, x, kk, gd, rfl⟩, q⟩ := h
  obtain ⟨v, u, rfl, tv, tu⟩ := tp2 t
  have G := growS
  have h4 := kk.dp
  exact EvS.run G (es_ifF1 G (evt_notT (evt_B (evb_call G (pre := preChange 4) (eva_two G (ev_var G tv) (ev_var G tu)) ⟨k, x, kk.ok, h4, by omega, gd, rfl, rfl⟩))) q)
def preFit : List PyData → Prop := fun ds => ∃ (k : Kd) (v : Vl k) (c : Vl k.D), Kk k ∧ Gd k v ∧ Gd k.D c ∧ fits k v c = true ∧ ds = [encK k, enc k v, enc k.D c]
theorem sc_check_fitting : FnScope ["kind", "value", "change"] ["kind", "value", "change"] (defScope s_check_fitting) := ⟨rfl, rfl, rfl, by decide +kernel, rfl, by decide +kernel, by decide +kernel⟩
theorem ok_check_fitting (Z : Fs w K mg) : OkF P w K mg base "check_fitting" ["kind", "value", "change"] 18 (spN preFit) := by
  have sc := sc_check_fitting
  have O_check_valued := ok_check_valued (P := P) (base := base) Z
  have O_check_change := ok_check_change (P := P) (base := base) Z
  have O_fits_by := ok_fits_by (P := P) (base := base) Z 4
  refine Z.f_check_fitting.ok sc (spN_len fun ds ⟨k, v, c, _, _, _, _, e⟩ => by rw [e]; rfl) (fun _ _ _ _ _ _ us hl => match us, hl with | [_, _, _], _ => rfl) fun f cdv A outer s H vs Q E hr h => ?_
  refine ⟨_, (pss_cons (ps_expr (pe_callO O_check_valued hr (ha := (pa_cons (pv 0) (pa_cons (pv 1) pa_nil))))) (pss_cons (ps_expr (pe_callO O_check_change hr (ha := (pa_cons (pv 0) (pa_cons (pv 2) pa_nil))))) (pss_one (ps_if (pt_not (pt_val (pe_callO O_fits_by hr (ha := (pa_cons (pv 0) (pa_cons (pv 1) (pa_cons (pv 2) pa_nil))))))) (pss_one ps_never) pss_nil)))), ?_⟩
  obtain ⟨ds, t, ⟨k, x, c, kk, gv, gc, hf, rfl⟩, q⟩ := h
  obtain ⟨v, u, y, rfl, tv, tu, ty⟩ := tp3 t
  have G := growS
  have h4 := kk.dp
  exact EvS.run G (es_drop G (evn_call G (pre := preKv) (eva_two G (ev_var G tv) (ev_var G tu)) ⟨k, x, kk, gv, rfl⟩) (es_drop G (evn_call G (pre := preKc) (eva_two G (ev_var G tv) (ev_var G ty)) ⟨k, c, kk, gc, rfl⟩) (es_ifF1 G (evt_notT (evt_B (EvB.to (evb_call G (pre := preFits 4) (eva_cons G (ev_var G tv) (eva_two G (ev_var G tu) (ev_var G ty))) ⟨k, x, c, h4, rfl, rfl⟩) hf))) q)))
/-! the three that the law asks -/
def preSettled : List PyData → PyData → Prop := fun ds d => ∃ (k : Kd) (v : Vl k) (c : Vl k.D), Kk k ∧ Gd k v ∧ Gd k.D c ∧ Gd k (led k v c) ∧ fits k v c = true ∧ ds = [encK k, enc k v, enc k.D c] ∧ d = enc k.D (less k (led k v c) v)
theorem sc_settled : FnScope ["kind", "value", "change"] ["kind", "value", "change"] (defScope s_settled) := ⟨rfl, rfl, rfl, by decide +kernel, rfl, by decide +kernel, by decide +kernel⟩
theorem ok_settled (Z : Fs w K mg) : OkF P w K mg base "settled" ["kind", "value", "change"] 19 (spD preSettled) := by
  have sc := sc_settled
  have O_check_fitting := ok_check_fitting (P := P) (base := base) Z
  have O_settled_by := ok_settled_by (P := P) (base := base) Z
  refine Z.f_settled.ok sc (spD_len fun ds b ⟨k, v, c, _, _, _, _, _, e, _⟩ => by rw [e]; rfl) (fun _ _ _ _ _ _ us hl => match us, hl with | [_, _, _], _ => rfl) fun f cdv A outer s H vs Q E hr h => ?_
  refine ⟨_, (pss_cons (ps_expr (pe_callO O_check_fitting hr (ha := (pa_cons (pv 0) (pa_cons (pv 1) (pa_cons (pv 2) pa_nil)))))) (pss_one (ps_ret (pe_callO O_settled_by hr (ha := (pa_cons (pv 0) (pa_cons (pv 1) (pa_cons (pv 2) pa_nil)))))))), ?_⟩
  obtain ⟨ds, b, t, ⟨k, x, c, kk, gv, gc, gl, hf, rfl, rfl⟩, q⟩ := h
  obtain ⟨v, u, y, rfl, tv, tu, ty⟩ := tp3 t
  have G := growS
  exact EvS.run G (es_drop G (evn_call G (pre := preFit) (eva_cons G (ev_var G tv) (eva_two G (ev_var G tu) (ev_var G ty))) ⟨k, x, c, kk, gv, gc, hf, rfl⟩) (es_ret G (ev_call G (pre := preSetBy) (eva_cons G (ev_var G tv) (eva_two G (ev_var G tu) (ev_var G ty))) ⟨k, x, c, kk, gv, gc, gl, rfl, rfl⟩) q))
def preAlike : List PyData → Bool → Prop := fun ds r => ∃ (k : Kd) (v : Vl k) (c e : Vl k.D), Kk k ∧ Gd k v ∧ Gd k.D c ∧ Gd k.D e ∧ ds = [encK k, enc k v, enc k.D c, enc k.D e] ∧ r = (fits k v c && fits k v e && decide (led k v c = led k v e))
theorem sc_are_alike : FnScope ["kind", "value", "one", "two"] ["kind", "value", "one", "two"] (defScope s_are_alike) := ⟨rfl, rfl, rfl, by decide +kernel, rfl, by decide +kernel, by decide +kernel⟩
theorem ok_are_alike (Z : Fs w K mg) : OkF P w K mg base "are_alike" ["kind", "value", "one", "two"] 18 (spB preAlike) := by
  have sc := sc_are_alike
  have O_check_valued := ok_check_valued (P := P) (base := base) Z
  have O_check_change := ok_check_change (P := P) (base := base) Z
  have O_fits_by := ok_fits_by (P := P) (base := base) Z 4
  have O_led_by := ok_led_by (P := P) (base := base) Z 4
  refine Z.f_are_alike.ok sc (spB_len fun ds b ⟨k, v, c, e', _, _, _, _, e, _⟩ => by rw [e]; rfl) (fun _ _ _ _ _ _ us hl => match us, hl with | [_, _, _, _], _ => rfl) fun f cdv A outer s H vs Q E hr h => ?_
  refine ⟨_, (pss_cons (ps_expr (pe_callO O_check_valued hr (ha := (pa_cons (pv 0) (pa_cons (pv 1) pa_nil))))) (pss_cons (ps_expr (pe_callO O_check_change hr (ha := (pa_cons (pv 0) (pa_cons (pv 2) pa_nil))))) (pss_cons (ps_expr (pe_callO O_check_change hr (ha := (pa_cons (pv 0) (pa_cons (pv 3) pa_nil))))) (pss_cons (ps_if (PW.pt (pw_or (pt_not (pt_val (pe_callO O_fits_by hr (ha := (pa_cons (pv 0) (pa_cons (pv 1) (pa_cons (pv 2) pa_nil))))))) (pw_or1 (pt_not (pt_val (pe_callO O_fits_by hr (ha := (pa_cons (pv 0) (pa_cons (pv 1) (pa_cons (pv 3) pa_nil)))))))))) (pss_one (ps_ret pe_bl)) pss_nil) (pss_one (ps_ret (pe_cmpR (op_eqD hr.units) (pe_callO O_led_by hr (ha := (pa_cons (pv 0) (pa_cons (pv 1) (pa_cons (pv 2) pa_nil))))) (pe_callO O_led_by hr (ha := (pa_cons (pv 0) (pa_cons (pv 1) (pa_cons (pv 3) pa_nil))))) (nomark _)))))))), ?_⟩
  obtain ⟨ds, b, t, ⟨k, x, c, e, kk, gv, gc, ge, rfl, rfl⟩, q⟩ := h
  obtain ⟨v, u, y, z, rfl, tv, tu, ty, tz⟩ := tp4 t
  have G := growS
  have h4 := kk.dp
  have f1 := evt_B (evb_call (R := Same) (σ := start ["kind", "value", "one", "two"] [v, u, y, z]) (H := H) G (pre := preFits 4) (eva_cons G (ev_var (i := 0) G tv) (eva_two G (ev_var (i := 1) G tu) (ev_var (i := 2) G ty))) ⟨k, x, c, h4, rfl, rfl⟩)
  have f2 := evt_B (evb_call (R := Same) (σ := start ["kind", "value", "one", "two"] [v, u, y, z]) (H := H) G (pre := preFits 4) (eva_cons G (ev_var (i := 0) G tv) (eva_two G (ev_var (i := 1) G tu) (ev_var (i := 3) G tz))) ⟨k, x, e, h4, rfl, rfl⟩)
  have l1 := ev_call (R := Same) (σ := start ["kind", "value", "one", "two"] [v, u, y, z]) (H := H) G (pre := preLed 4) (eva_cons G (ev_var (i := 0) G tv) (eva_two G (ev_var (i := 1) G tu) (ev_var (i := 2) G ty))) ⟨k, x, c, kk.ok, h4, by omega, gv, gc, rfl, rfl⟩
  have l2 := ev_call (R := Same) (σ := start ["kind", "value", "one", "two"] [v, u, y, z]) (H := H) G (pre := preLed 4) (eva_cons G (ev_var (i := 0) G tv) (eva_two G (ev_var (i := 1) G tu) (ev_var (i := 3) G tz))) ⟨k, x, e, kk.ok, h4, by omega, gv, ge, rfl, rfl⟩
  refine EvS.run G (es_drop G (evn_call G (pre := preKv) (eva_two G (ev_var G tv) (ev_var G tu)) ⟨k, x, kk, gv, rfl⟩) (es_drop G (evn_call G (pre := preKc) (eva_two G (ev_var G tv) (ev_var G ty)) ⟨k, c, kk, gc, rfl⟩) (es_drop G (evn_call G (pre := preKc) (eva_two G (ev_var G tv) (ev_var G tz)) ⟨k, e, kk, ge, rfl⟩) ?_)))
  cases q1 : fits k x c with
  | false =>
    rw [q1] at f1 q
    exact es_ifT G (evt_orT (b := true) (evt_notF f1)) (es_retB G (evb_c G) q)
  | true =>
    rw [q1] at f1 q
    cases q2 : fits k x e with
    | false =>
      rw [q2] at f2 q
      exact es_ifT G (evt_orF G (evt_notT f1) (evt_notF f2)) (es_retB G (evb_c G) q)
    | true =>
      rw [q2] at f2 q
      refine es_ifF G (evt_orF G (evt_notT f1) (evt_notT f2)) (es_retB G (EvB.to (evb_eq G l1 l2 (shp_enc _ (by omega)) (shp_enc _ (by omega))) ?_) q)
      rw [eqv_enc]
      rfl
def preNothing : List PyData → Bool → Prop := fun ds r => ∃ (k : Kd) (v : Vl k) (c : Vl k.D), Kk k ∧ Gd k v ∧ Gd k.D c ∧ ds = [encK k, enc k v, enc k.D c] ∧ r = (fits k v c && decide (led k v c = v))
theorem sc_changes_nothing : FnScope ["kind", "value", "change"] ["kind", "value", "change"] (defScope s_changes_nothing) := ⟨rfl, rfl, rfl, by decide +kernel, rfl, by decide +kernel, by decide +kernel⟩
theorem ok_changes_nothing (Z : Fs w K mg) : OkF P w K mg base "changes_nothing" ["kind", "value", "change"] 18 (spB preNothing) := by
  have sc := sc_changes_nothing
  have O_check_valued := ok_check_valued (P := P) (base := base) Z
  have O_check_change := ok_check_change (P := P) (base := base) Z
  have O_fits_by := ok_fits_by (P := P) (base := base) Z 4
  have O_led_by := ok_led_by (P := P) (base := base) Z 4
  refine Z.f_changes_nothing.ok sc (spB_len fun ds b ⟨k, v, c, _, _, _, e, _⟩ => by rw [e]; rfl) (fun _ _ _ _ _ _ us hl => match us, hl with | [_, _, _], _ => rfl) fun f cdv A outer s H vs Q E hr h => ?_
  refine ⟨_, (pss_cons (ps_expr (pe_callO O_check_valued hr (ha := (pa_cons (pv 0) (pa_cons (pv 1) pa_nil))))) (pss_cons (ps_expr (pe_callO O_check_change hr (ha := (pa_cons (pv 0) (pa_cons (pv 2) pa_nil))))) (pss_one (ps_ret (pe_and (pe_callO O_fits_by hr (ha := (pa_cons (pv 0) (pa_cons (pv 1) (pa_cons (pv 2) pa_nil))))) (pe_one (pe_cmpR (op_eqD hr.units) (pe_callO O_led_by hr (ha := (pa_cons (pv 0) (pa_cons (pv 1) (pa_cons (pv 2) pa_nil))))) (pv 1) (nomark _)))))))), ?_⟩
  obtain ⟨ds, b, t, ⟨k, x, c, kk, gv, gc, rfl, rfl⟩, q⟩ := h
  obtain ⟨v, u, y, rfl, tv, tu, ty⟩ := tp3 t
  have G := growS
  have h4 := kk.dp
  refine EvS.run G (es_drop G (evn_call G (pre := preKv) (eva_two G (ev_var G tv) (ev_var G tu)) ⟨k, x, kk, gv, rfl⟩) (es_drop G (evn_call G (pre := preKc) (eva_two G (ev_var G tv) (ev_var G ty)) ⟨k, c, kk, gc, rfl⟩) (es_retB G (evb_and G (evb_call G (pre := preFits 4) (eva_cons G (ev_var G tv) (eva_two G (ev_var G tu) (ev_var G ty))) ⟨k, x, c, h4, rfl, rfl⟩) fun _ => EvB.to (evb_eq G (ev_call G (pre := preLed 4) (eva_cons G (ev_var G tv) (eva_two G (ev_var G tu) (ev_var G ty))) ⟨k, x, c, kk.ok, h4, by omega, gv, gc, rfl, rfl⟩) (ev_var G tu) (shp_enc _ (by omega)) (shp_enc _ (by omega))) (eqv_enc _ _ _)) q)))
end
end Cw
/-! part CwB1 -/
set_option Elab.async false
set_option linter.all false
set_option maxRecDepth 100000
set_option maxHeartbeats 1000000
/-! The law's own pure defs. -/
namespace Cw
open PySem PySem.Spec PyProof.Rows L2
theorem pe_callO0 {X : Cx} {x : Str} {ps : List Str} {j k : Nat} {sp : Sp} {p pos : Pos} (O : OkF X.prog X.w X.K X.mg X.base x ps j sp) (hr : Room k X.A) (hjk : j ≤ k := by omega) (hg : Gl X x := by rfl) (hdb : (x == ("__debug__" : Str)) = false := by decide +kernel) :
    PE X (.Call (.Name x p) [] [] pos) (tCall sp [] E0 tNil) := by
  obtain ⟨fd, F, b, kp, _⟩ := O.ex
  exact pe_call0 F (hr.mono hjk) hg O.gl kp b .nil pass0 hdb
section
variable {P : Program} {w : World} {K : PySem.W.Frag} {mg : Str → Option Value} {base : Heap}
/-- list(t) -/
theorem evl_list {σ : L2.St} {H : Hp} {te : TE} {ds : List PyData} (h : EvD Same te σ H (.tuple ds)) : EvL Same (tCB (fun xs H Q => ∃ p ys, xs = [.ref p] ∧ (SqL K H p ys ∨ SqT K H p ys) ∧ ∀ l, H l = none → Q (.ref l) (upd H l (.lst ys))) (tCons te tNil)) σ H ds := fun H1 g Q q =>
  h H1 g _ fun v H2 g2 t => by
    obtain ⟨a, xs, rfl, ea, tt⟩ := t.tup_of
    exact ⟨a, xs, rfl, .inr ea.sq, fun l hl => q l xs _ (g2.trans (same_new hl _)) upd_same (tt.mono (TK.same (same_new hl _)))⟩
/-- l + m -/
theorem evl_cat {σ : L2.St} {H : Hp} {ta tb : TE} {ds es : List PyData} (h1 : EvL Same ta σ H ds) (h2 : EvL Same tb σ H es) (hz : ds.length + es.length ≤ 1000) : EvL Same (tOp rCat ta tb) σ H (ds ++ es) := fun H1 g Q q =>
  h1 H1 g _ fun l xs H2 g2 e1 t1 => h2 H2 (g.trans g2) _ fun m ys H3 g3 e2 t2 => by
    refine ⟨l, m, xs, ys, rfl, rfl, g3 _ _ e1, e2, by rw [t1.len, t2.len, sizeLine_eq]; omega, fun p hp => ?_⟩
    have s := same_new hp (.lst (xs ++ ys))
    exact q p _ _ ((g2.trans g3).trans s) upd_same (((t1.mono (TK.same g3)).append t2).mono (TK.same s))
/-! _law_truth -/
def preTruth : List PyData → PyData → Prop := fun ds d => ds = [] ∧ d = encK (.either .unit .unit)
theorem sc_law_truth : FnScope [] [] (defScope s_law_truth) := ⟨rfl, rfl, rfl, by decide +kernel, rfl, by decide +kernel, by decide +kernel⟩
theorem ok_law_truth (Z : Fs w K mg) : OkF P w K mg base "_law_truth" [] 1 (spD preTruth) := by
  have sc := sc_law_truth
  refine Z.f_law_truth.ok sc (spD_len fun ds d ⟨e, _⟩ => by rw [e]; rfl) (fun _ _ _ _ _ _ us hl => match us, hl with | [], _ => rfl) fun f cdv A outer s H vs Q E hr h => ?_
  refine ⟨_, (pss_one (ps_ret (pe_tupN (pa_cons pe_str (pa_cons (pe_tupN (pa_cons pe_str pa_nil)) (pa_cons (pe_tupN (pa_cons pe_str pa_nil)) pa_nil)))))), ?_⟩
  obtain ⟨ds, d, t, ⟨rfl, rfl⟩, q⟩ := h
  cases t
  have G := growS
  exact EvS.run G (es_ret G (ev_tup G (eva_cons G (ev_str G) (eva_two G (ev_tup G (eva_one G (ev_str G))) (ev_tup G (eva_one G (ev_str G))))) (show 3 ≤ 1000 by decide)) q)
/-! _law_bag -/
def spLBag : Sp := fun vs H Q _ => ∃ (l : Addr) (a : Kd) (us : List V) (ps : List (Vl a × Int)), vs = [.ref l] ∧ a.plain = true ∧ a.dep ≤ 8 ∧ H l = some (.lst us) ∧ TpAll H us (ps.map (encP a)) ∧ ps.length < 64 ∧ ∀ v H', Same H H' → Tp H' v (enc (.bag a) (norm (lt a) ps)) → Q v H'
theorem sc_law_bag : FnScope ["_law_pairs", "_law_found", "_law_value_here", "_law_times"] ["_law_pairs"] (defScope s_law_bag) := ⟨rfl, rfl, rfl, by decide +kernel, rfl, by decide +kernel, by decide +kernel⟩
theorem ok_law_bag (Z : Fs w K mg) : OkF P w K mg base "_law_bag" ["_law_pairs"] 1 spLBag := by
  have sc := sc_law_bag
  refine Z.f_law_bag.ok sc (fun vs H Q E ⟨l, a, us, ps, e, _⟩ => by rw [e]; rfl) (fun _ _ _ _ _ _ us hl => match us, hl with | [_], _ => rfl) fun f cdv A outer s H vs Q E hr h => ?_
  refine ⟨_, (pss_cons (ps_set (i := 1) sc.nd rfl (by first | exact Or.inl rfl | exact Or.inr rfl) pe_dnewN) (pss_cons (ps_for PassesOwn.never rfl (pi_list (pv 0)) (pg_tup rfl (pgs_cons (pg_name sc.nd (i := 2) rfl (by first | exact Or.inl rfl | exact Or.inr rfl)) (pgs_cons (pg_name sc.nd (i := 3) rfl (by first | exact Or.inl rfl | exact Or.inr rfl)) pgs_nil))) (pss_one (ps_nput hr.units (pv 1) (pv 2) (pe_op op_add (pe_nget2 hr.units (pv 1) (pv 2) pe_int ⟨rfl, rfl, rfl, rfl⟩) (pv 3)) rfl))) (pss_one (ps_ret (pe_callTy call_tupN rfl Z.ztuple boot_tuple (pa_cons (pe_lc rfl sc.nd (pi_list (pe_callB (cr_sortB rfl hr.units) rfl Z.zsorted boot_sorted (pa_cons (pv 1) pa_nil))) (own := [("_law_value_here", 2)]) (blkOk_by rfl) (fun _ _ _ _ _ => (pg_name sc.nd (i := 2) rfl (by first | exact Or.inl rfl | exact Or.inr rfl))) (fun _ _ _ _ _ => (pts_one (pt_cmpR (op_neK (K := K) rfl hr.units) (pe_ngetK (P := P) (w := w) rfl rfl hr.units (pv 1) (pv 2)) pe_int (nomark _)))) (fun _ _ _ _ _ => (pe_tupN (pa_cons (pv 2) (pa_cons (pe_ngetK (P := P) (w := w) rfl rfl hr.units (pv 1) (pv 2)) pa_nil))))) pa_nil)))))), ?_⟩
  obtain ⟨l, a, us, ps, rfl, pl, dp, el, tl, h64, q⟩ := h
  refine ⟨a, pl, dp, fun p H1 hn s1 B => ?_⟩
  refine ⟨.ref l, rfl, l, rfl, ⟨us, .inl (.inl (s1 _ _ el))⟩, for_bag (K := K) (walk_lst el tl) hn s1 B rfl (by decide) (by decide) (by decide) (ltr rfl) (ltr rfl) (by show 0 + ps.length < 64; omega) fun σ' Hc zs hl h2 s2 B2 hc hz => ?_⟩
  refine EvS.run growS (es_ret growS (ev_tupleL growS (evl_out (i := 1) (j := 2) (by decide) (by rw [hl]; exact ltr rfl) B2 hz h2)) fun v H1 g t => q v H1 (s2.trans g) ?_)
  rw [norm_congr (ltO pl) (m := zs) fun z => by rw [hc z, cnt_nil]; omega]
  exact t
/-! _law_plus -/
def preLPlus : List PyData → PyData → Prop := fun ds d => (∃ i j : Int, ds = [.int i, .int j] ∧ d = .int (i + j)) ∨ ∃ (a : Kd) (xs ys : List (Vl a × Int)), a.plain = true ∧ a.dep ≤ 8 ∧ xs.length + ys.length < 64 ∧ ds = [enc (.bag a) xs, enc (.bag a) ys] ∧ d = enc (.bag a) (norm (lt a) (xs ++ ys))
theorem preLPlus_len {ds : List PyData} {d : PyData} (h : preLPlus ds d) : ds.length = 2 := by
  rcases h with ⟨i, j, e, _⟩ | ⟨a, xs, ys, _, _, _, e, _⟩ <;> rw [e] <;> rfl
/-- t != () and t[0] == 'pair', of a bag -/
theorem evt_bagPair {σ : L2.St} {H : Hp} {i : Nat} {v : V} {a : Kd} {xs : List (Vl a × Int)} (dp : a.dep ≤ 8) (tv : Tp H v (enc (.bag a) xs)) (hs : σ[i]? = some (some v) := by rfl) :
    EvT Same (tAnd (tTest (tOp (rNeD K) (tVar i) (tTupN tNil))) (tTest (tOp (rEqD K) (tOp (rIxT K) (tVar i) (tC (.int 0))) (tC (.str "pair"))))) σ H false := by
  have G := growS
  have dp2 : (Kd.bag a).dep ≤ 30 := by show a.dep + 1 ≤ 30; omega
  have hne := evb_ne (K := K) G (ev_var (R := Same) G tv hs) (ev_tup G (eva_nil G)) (shp_enc (k := .bag a) xs dp2) shp_nil
  have e1 : PyData.eqv (enc (.bag a) xs) (.tuple []) = decide (xs = []) := eqv_enc (.bag a) xs []
  rw [e1] at hne
  cases xs with
  | nil => exact evt_andF (evt_test (EvB.to hne (by rw [decide_eq_true rfl]; rfl)))
  | cons p xs =>
    refine evt_andT G (evt_test (EvB.to hne (by rw [decide_eq_false (fun z => nomatch z)]; rfl))) (evt_test (EvB.to (evb_eq G (ev_ix0 G (ds := (p :: xs).map (encP a)) (ev_var G tv hs)) (ev_str G) (shp_encP p (by omega)) (shp_str ok_pair)) ?_))
    show PyData.eqv (.tuple _) (.str _) = false
    simp only [PyData.eqv]
theorem ev_lbag {σ : L2.St} {H : Hp} {te : TE} {a : Kd} {ps : List (Vl a × Int)} (pl : a.plain = true) (dp : a.dep ≤ 8) (h : EvL Same te σ H (ps.map (encP a))) (hz : ps.length < 64) : EvD Same (tCall spLBag [] E0 (tCons te tNil)) σ H (enc (.bag a) (norm (lt a) ps)) := fun H1 g Q q =>
  h H1 g _ fun l us H2 g2 el tl => ⟨l, a, us, ps, rfl, pl, dp, el, tl, hz, fun v H3 g3 t => q v H3 (g2.trans g3) t⟩
theorem sc_law_plus : FnScope ["_law_one_here", "_law_two"] ["_law_one_here", "_law_two"] (defScope s_law_plus) := ⟨rfl, rfl, rfl, by decide +kernel, rfl, by decide +kernel, by decide +kernel⟩
theorem ok_law_plus (Z : Fs w K mg) : OkF P w K mg base "_law_plus" ["_law_one_here", "_law_two"] 2 (spD preLPlus) := by
  have sc := sc_law_plus
  have O_law_bag := ok_law_bag (P := P) (base := base) Z
  have O_law_plus : OkF P w K mg base "_law_plus" ["_law_one_here", "_law_two"] 1 (spD fun _ _ => False) := by
    refine Z.f_law_plus.ok (k := 0) sc (fun vs H Q E ⟨_, _, _, h, _⟩ => h.elim) (fun _ _ _ _ _ _ us hl => match us, hl with | [_, _], _ => rfl) fun f cdv A outer s H vs Q E hr ⟨_, _, _, h, _⟩ => h.elim
  refine Z.f_law_plus.ok sc (spD_len fun ds d h => preLPlus_len h) (fun _ _ _ _ _ _ us hl => match us, hl with | [_, _], _ => rfl) fun f cdv A outer s H vs Q E hr h => ?_
  refine ⟨_, (pss_cons (ps_if (pt_not (pt_val (pe_isi "tuple" (pv 0) Z.zisinstance Z.ztuple))) (pss_one (ps_ret (pe_op op_add (pv 0) (pv 1)))) pss_nil) (pss_cons (ps_if (PW.pt (pw_and (pt_cmpR (op_neD hr.units) (pv 0) (pe_tupN pa_nil) (nomark _)) (pw_and1 (pt_cmpR (op_eqD hr.units) (pe_ix ix_tup (pv 0) pe_int (fun _ _ => rfl)) pe_str (nomark _))))) (pss_one (ps_ret (pe_tupN (pa_cons pe_str (pa_cons (pe_callO O_law_plus hr (ha := (pa_cons (pe_ix ix_tup (pv 0) pe_int (fun _ _ => rfl)) (pa_cons (pe_ix ix_tup (pv 1) pe_int (fun _ _ => rfl)) pa_nil)))) (pa_cons (pe_callO O_law_plus hr (ha := (pa_cons (pe_ix ix_tup (pv 0) pe_int (fun _ _ => rfl)) (pa_cons (pe_ix ix_tup (pv 1) pe_int (fun _ _ => rfl)) pa_nil)))) pa_nil)))))) pss_nil) (pss_one (ps_ret (pe_callO O_law_bag hr (ha := (pa_cons (pe_op op_cat (pe_callTy call_list_of rfl Z.zlist boot_list (pa_cons (pv 0) pa_nil)) (pe_callTy call_list_of rfl Z.zlist boot_list (pa_cons (pv 1) pa_nil))) pa_nil))))))), ?_⟩
  obtain ⟨ds, d, t, c, q⟩ := h
  have G := growS
  rcases c with ⟨i, j, rfl, rfl⟩ | ⟨a, xs, ys, pl, dp, hz, rfl, rfl⟩
  · obtain ⟨v, u, rfl, tv, tu⟩ := tp2 t
    exact EvS.run G (es_ifT G (evt_notF (evt_isi G (.int i) (ev_var G tv) kit_it)) (es_ret G (ev_intop (g := fun i j => i + j) G (ev_var G tv) (ev_var G tu)) q))
  · obtain ⟨v, u, rfl, tv, tu⟩ := tp2 t
    have tv' : Tp H v (.tuple (xs.map (encP a))) := tv
    have tu' : Tp H u (.tuple (ys.map (encP a))) := tu
    refine EvS.run G (es_ifF G (evt_notT (evt_isi G (.tuple _) (ev_var G tv) kit_tt)) (es_ifF G (evt_bagPair dp tv) (es_ret G (ev_lbag pl dp (ps := xs ++ ys) ?_ (by rw [List.length_append]; exact hz)) q)))
    rw [List.map_append]
    exact evl_cat (evl_list (ev_var G tv')) (evl_list (ev_var G tu')) (by rw [List.length_map, List.length_map]; omega)
/-! _law_many -/
def preLMany : List PyData → PyData → Prop := fun ds d => (∃ i : Int, ds = [.int (-1), .int i] ∧ d = .int (-1 * i)) ∨ ∃ (a : Kd) (xs : List (Vl a × Int)), a.plain = true ∧ a.dep ≤ 8 ∧ xs.length < 64 ∧ ds = [.int (-1), enc (.bag a) xs] ∧ d = enc (.bag a) (norm (lt a) (negB xs))
theorem preLMany_len {ds : List PyData} {d : PyData} (h : preLMany ds d) : ds.length = 2 := by
  rcases h with ⟨i, e, _⟩ | ⟨a, xs, _, _, _, e, _⟩ <;> rw [e] <;> rfl
theorem sc_law_many : FnScope ["_law_number", "_law_one_here", "_law_value_here", "_law_times"] ["_law_number", "_law_one_here"] (defScope s_law_many) := ⟨rfl, rfl, rfl, by decide +kernel, rfl, by decide +kernel, by decide +kernel⟩
theorem ok_law_many (Z : Fs w K mg) : OkF P w K mg base "_law_many" ["_law_number", "_law_one_here"] 2 (spD preLMany) := by
  have sc := sc_law_many
  have O_law_bag := ok_law_bag (P := P) (base := base) Z
  have O_law_many : OkF P w K mg base "_law_many" ["_law_number", "_law_one_here"] 1 (spD fun _ _ => False) := by
    refine Z.f_law_many.ok (k := 0) sc (fun vs H Q E ⟨_, _, _, h, _⟩ => h.elim) (fun _ _ _ _ _ _ us hl => match us, hl with | [_, _], _ => rfl) fun f cdv A outer s H vs Q E hr ⟨_, _, _, h, _⟩ => h.elim
  refine Z.f_law_many.ok sc (spD_len fun ds d h => preLMany_len h) (fun _ _ _ _ _ _ us hl => match us, hl with | [_, _], _ => rfl) fun f cdv A outer s H vs Q E hr h => ?_
  refine ⟨_, (pss_cons (ps_if (pt_not (pt_val (pe_isi "tuple" (pv 1) Z.zisinstance Z.ztuple))) (pss_one (ps_ret (pe_op op_mul (pv 0) (pv 1)))) pss_nil) (pss_cons (ps_if (PW.pt (pw_and (pt_cmpR (op_neD hr.units) (pv 1) (pe_tupN pa_nil) (nomark _)) (pw_and1 (pt_cmpR (op_eqD hr.units) (pe_ix ix_tup (pv 1) pe_int (fun _ _ => rfl)) pe_str (nomark _))))) (pss_one (ps_ret (pe_tupN (pa_cons pe_str (pa_cons (pe_callO O_law_many hr (ha := (pa_cons (pv 0) (pa_cons (pe_ix ix_tup (pv 1) pe_int (fun _ _ => rfl)) pa_nil)))) (pa_cons (pe_callO O_law_many hr (ha := (pa_cons (pv 0) (pa_cons (pe_ix ix_tup (pv 1) pe_int (fun _ _ => rfl)) pa_nil)))) pa_nil)))))) pss_nil) (pss_one (ps_ret (pe_callO O_law_bag hr (ha := (pa_cons (pe_lc rfl sc.nd (pi_tup (pv 1)) (own := [("_law_value_here", 2), ("_law_times", 3)]) (blkOk_by rfl) (fun _ _ _ _ _ => (pg_tupK (K := K) (n := 2) rfl rfl (pgs_cons (pg_name sc.nd (i := 2) rfl (by first | exact Or.inl rfl | exact Or.inr rfl)) (pgs_cons (pg_name sc.nd (i := 3) rfl (by first | exact Or.inl rfl | exact Or.inr rfl)) pgs_nil)))) (fun _ _ _ _ _ => pts_nil) (fun _ _ _ _ _ => (pe_tupN (pa_cons (pv 2) (pa_cons (pe_op op_mul (pv 0) (pv 3)) pa_nil))))) pa_nil))))))), ?_⟩
  obtain ⟨ds, d, t, c, q⟩ := h
  have G := growS
  rcases c with ⟨i, rfl, rfl⟩ | ⟨a, xs, pl, dp, hz, rfl, rfl⟩
  · obtain ⟨v, u, rfl, tv, tu⟩ := tp2 t
    exact EvS.run G (es_ifT G (evt_notF (evt_isi G (.int i) (ev_var G tu) kit_it)) (es_ret G (ev_intopC (g := fun i j => i * j) G (ev_var G tv) (ev_var G tu) (cmul1 i)) q))
  · obtain ⟨v, u, rfl, tv, tu⟩ := tp2 t
    obtain rfl := tv.int_of
    have tu' : Tp H u (.tuple (xs.map (encP a))) := tu
    exact EvS.run G (es_ifF G (evt_notT (evt_isi G (.tuple _) (ev_var G tu) kit_tt)) (es_ifF G (evt_bagPair dp tu) (es_ret G (ev_lbag pl dp (ps := negB xs) (evl_neg (by decide) (by decide) (by decide) (ltr rfl) (ltr rfl) (by omega) (EvD.q (ev_var G tu')) rfl) (by rw [neg_len]; exact hz)) q)))
/-! _law_d -/
def preLD (n : Nat) : List PyData → PyData → Prop := fun ds d => ∃ k : Kd, k.dep ≤ n ∧ ds = [encK k] ∧ d = encK k.D
theorem sc_law_d : FnScope ["_law_kind"] ["_law_kind"] (defScope s_law_d) := ⟨rfl, rfl, rfl, by decide +kernel, rfl, by decide +kernel, by decide +kernel⟩
theorem ok_law_d (Z : Fs w K mg) : ∀ n, OkF P w K mg base "_law_d" ["_law_kind"] (n + 1) (spD (preLD n))
  | 0 => Z.f_law_d.ok sc_law_d (spD_len fun ds b ⟨k, _, e, _⟩ => by rw [e]; rfl) (fun _ _ _ _ _ _ us hl => match us, hl with | [_], _ => rfl) fun f cdv A outer s H vs Q E hr h => by
    obtain ⟨ds, b, t, ⟨k, hd, _⟩, q⟩ := h
    have := k.dep_pos
    exfalso
    omega
  | n + 1 => by
    have sc := sc_law_d
    have O_law_d := ok_law_d Z n
    refine Z.f_law_d.ok sc (spD_len fun ds b ⟨k, _, e, _⟩ => by rw [e]; rfl) (fun _ _ _ _ _ _ us hl => match us, hl with | [_], _ => rfl) fun f cdv A outer s H vs Q E hr h => ?_
    refine ⟨_, (pss_cons (ps_if (pt_cmpR (op_eqD hr.units) (pe_ix ix_tup (pv 0) pe_int (fun _ _ => rfl)) pe_str (nomark _)) (pss_one (ps_ret (pe_tupN (pa_cons pe_str (pa_cons (pe_callO O_law_d hr (ha := (pa_cons (pe_ix ix_tup (pv 0) pe_int (fun _ _ => rfl)) pa_nil))) (pa_cons (pe_callO O_law_d hr (ha := (pa_cons (pe_ix ix_tup (pv 0) pe_int (fun _ _ => rfl)) pa_nil))) pa_nil)))))) pss_nil) (pss_cons (ps_if (pt_cmpR (op_eqD hr.units) (pe_ix ix_tup (pv 0) pe_int (fun _ _ => rfl)) pe_str (nomark _)) (pss_one (ps_ret (pe_tupN (pa_cons pe_str (pa_cons (pe_tupN (pa_cons pe_str (pa_cons (pe_callO O_law_d hr (ha := (pa_cons (pe_ix ix_tup (pv 0) pe_int (fun _ _ => rfl)) pa_nil))) (pa_cons (pe_callO O_law_d hr (ha := (pa_cons (pe_ix ix_tup (pv 0) pe_int (fun _ _ => rfl)) pa_nil))) pa_nil)))) (pa_cons (pv 0) pa_nil)))))) pss_nil) (pss_cons (ps_if (pt_cmpR (op_eqD hr.units) (pe_ix ix_tup (pv 0) pe_int (fun _ _ => rfl)) pe_str (nomark _)) (pss_one (ps_ret (pe_tupN (pa_cons pe_str (pa_cons (pe_ix ix_tup (pv 0) pe_int (fun _ _ => rfl)) (pa_cons (pe_tupN (pa_cons pe_str (pa_cons (pe_callO O_law_d hr (ha := (pa_cons (pe_ix ix_tup (pv 0) pe_int (fun _ _ => rfl)) pa_nil))) (pa_cons (pe_callO O_law_d hr (ha := (pa_cons (pe_ix ix_tup (pv 0) pe_int (fun _ _ => rfl)) pa_nil))) pa_nil)))) pa_nil)))))) pss_nil) (pss_one (ps_ret (pv 0)))))), ?_⟩
    obtain ⟨ds, b, t, ⟨k, hd, rfl, rfl⟩, q⟩ := h
    obtain ⟨v, rfl, tv⟩ := tp1 t
    have G := growS
    cases k with
    | unit => exact EvS.run G (es_ifF G (EvT.eq (evt_k0 G tv "pair") tq_unit_pair) (es_ifF G (EvT.eq (evt_k0 G tv "either") tq_unit_either) (es_ifF G (EvT.eq (evt_k0 G tv "fun") tq_unit_fun) (es_ret G (ev_var G tv) q))))
    | num => exact EvS.run G (es_ifF G (EvT.eq (evt_k0 G tv "pair") tq_num_pair) (es_ifF G (EvT.eq (evt_k0 G tv "either") tq_num_either) (es_ifF G (EvT.eq (evt_k0 G tv "fun") tq_num_fun) (es_ret G (ev_var G tv) q))))
    | bag a => exact EvS.run G (es_ifF G (EvT.eq (evt_k0 G tv "pair") tq_bag_pair) (es_ifF G (EvT.eq (evt_k0 G tv "either") tq_bag_either) (es_ifF G (EvT.eq (evt_k0 G tv "fun") tq_bag_fun) (es_ret G (ev_var G tv) q))))
    | pair a b =>
      have hdep : (Kd.pair a b).dep = max a.dep b.dep + 1 := rfl
      exact EvS.run G (es_ifT G (EvT.eq (evt_k0 G tv "pair") tq_pair_pair) (es_ret G (ev_tup G (ds := [.str "pair", encK a.D, encK b.D]) (eva_cons G (ev_str G) (eva_two G (ev_call G (pre := preLD n) (eva_one G (ev_ix1 G (ds := [.str "pair", encK a, encK b]) (ev_var G tv))) ⟨a, by omega, rfl, rfl⟩) (ev_call G (pre := preLD n) (eva_one G (ev_ix2 G (ds := [.str "pair", encK a, encK b]) (ev_var G tv))) ⟨b, by omega, rfl, rfl⟩))) (show 3 ≤ 1000 by decide)) q))
    | either a b =>
      have hdep : (Kd.either a b).dep = max a.dep b.dep + 1 := rfl
      exact EvS.run G (es_ifF G (EvT.eq (evt_k0 G tv "pair") tq_either_pair) (es_ifT G (EvT.eq (evt_k0 G tv "either") tq_either_either) (es_ret G (ev_tup G (ds := [.str "either", .tuple [.str "either", encK a.D, encK b.D], encK (.either a b)]) (eva_cons G (ev_str G) (eva_two G (ev_tup G (eva_cons G (ev_str G) (eva_two G (ev_call G (pre := preLD n) (eva_one G (ev_ix1 G (ds := [.str "either", encK a, encK b]) (ev_var G tv))) ⟨a, by omega, rfl, rfl⟩) (ev_call G (pre := preLD n) (eva_one G (ev_ix2 G (ds := [.str "either", encK a, encK b]) (ev_var G tv))) ⟨b, by omega, rfl, rfl⟩))) (show 3 ≤ 1000 by decide)) (ev_var G tv))) (show 3 ≤ 1000 by decide)) q)))
end
end Cw
/-! part CwB2 -/
set_option Elab.async false
set_option linter.all false
set_option maxRecDepth 100000
set_option maxHeartbeats 1000000
/-! _law_fits, _law_led, _law_less. -/
namespace Cw
open PySem PySem.Spec PyProof.Rows L2
def inNB (x : Str) : Bool := [("num" : Str), "bag"].any fun y => decide (y = x)
theorem nb_u : inNB "unit" = false := by decide +kernel
theorem nb_n : inNB "num" = true := by decide +kernel
theorem nb_p : inNB "pair" = false := by decide +kernel
theorem nb_e : inNB "either" = false := by decide +kernel
theorem nb_b : inNB "bag" = true := by decide +kernel
section
variable {P : Program} {w : World} {K : PySem.W.Frag} {mg : Str → Option Value} {base : Heap}
theorem evt_nb {σ : L2.St} {H : Hp} {k : Kd} {i : Nat} {v : V} (tk : Tp H v (encK k)) (hs : σ[i]? = some (some v) := by rfl) : EvT Same (tTest (tOp (rIn K false) (tOp (rIxT K) (tVar i) (tC (.int 0))) (tTupN (tCons (tC (.str "num")) (tCons (tC (.str "bag")) tNil))))) σ H (inNB (tag k)) := by
  rw [encK_eq] at tk
  have G := growS
  exact evt_test (evb_in G (x := tag k) (ys := ["num", "bag"]) (ev_ix0 G (ev_var G tk hs)) (ev_tup G (eva_two G (ev_str G) (ev_str G))))
/-- kind[1 if value[0] == 'left' else 2] -/
theorem ev_sideL {σ : L2.St} {H : Hp} {i j : Nat} {v u : V} {a b : Kd} {d : PyData} (tk : Tp H v (encK (.either a b))) (tu : Tp H u (.tuple [.str "left", d])) (h1 : σ[i]? = some (some v) := by rfl) (h2 : σ[j]? = some (some u) := by rfl) :
    EvD Same (tOp (rIxT K) (tVar i) (tIf (tTest (tOp (rEqD K) (tOp (rIxT K) (tVar j) (tC (.int 0))) (tC (.str "left")))) (tC (.int 1)) (tC (.int 2)))) σ H (encK a) :=
  ev_ixV growS (i := 1) (ds := [.str "either", encK a, encK b]) (ev_var growS tk h1) (ev_ifT growS (evt_eqS growS (ev_ix0 growS (ev_var growS tu h2)) (ev_str growS) ok_left ok_left tq_left_left) (ev_int growS)) rfl
theorem ev_sideR {σ : L2.St} {H : Hp} {i j : Nat} {v u : V} {a b : Kd} {d : PyData} (tk : Tp H v (encK (.either a b))) (tu : Tp H u (.tuple [.str "right", d])) (h1 : σ[i]? = some (some v) := by rfl) (h2 : σ[j]? = some (some u) := by rfl) :
    EvD Same (tOp (rIxT K) (tVar i) (tIf (tTest (tOp (rEqD K) (tOp (rIxT K) (tVar j) (tC (.int 0))) (tC (.str "left")))) (tC (.int 1)) (tC (.int 2)))) σ H (encK b) :=
  ev_ixV growS (i := 2) (ds := [.str "either", encK a, encK b]) (ev_var growS tk h1) (ev_ifF growS (evt_eqS growS (ev_ix0 growS (ev_var growS tu h2)) (ev_str growS) ok_right ok_left tq_right_left) (ev_int growS)) rfl

/-! _law_fits -/
theorem sc_law_fits : FnScope ["_law_kind", "_law_value_here", "_law_change_here"] ["_law_kind", "_law_value_here", "_law_change_here"] (defScope s_law_fits) := ⟨rfl, rfl, rfl, by decide +kernel, rfl, by decide +kernel, by decide +kernel⟩
theorem ok_law_fits (Z : Fs w K mg) : ∀ n, OkF P w K mg base "_law_fits" ["_law_kind", "_law_value_here", "_law_change_here"] (n + 2) (spB (preFits n))
  | 0 => Z.f_law_fits.ok (k := 1) sc_law_fits (spB_len fun ds b ⟨k, v, c, _, e, _⟩ => by rw [e]; rfl) (fun _ _ _ _ _ _ us hl => match us, hl with | [_, _, _], _ => rfl) fun f cdv A outer s H vs Q E hr h => by
    obtain ⟨ds, b, t, ⟨k, v, c, hd, _⟩, q⟩ := h
    have := k.dep_pos
    exfalso
    omega
  | n + 1 => by
    have sc := sc_law_fits
    have O_law_plus := ok_law_plus (P := P) (base := base) Z
    have O_law_many := ok_law_many (P := P) (base := base) Z
    have O_law_fits := ok_law_fits Z n
    refine Z.f_law_fits.ok (k := n + 2) sc (spB_len fun ds b ⟨k, v, c, _, e, _⟩ => by rw [e]; rfl) (fun _ _ _ _ _ _ us hl => match us, hl with | [_, _, _], _ => rfl) fun f cdv A outer s H vs Q E hr h => ?_
    refine ⟨_, (pss_cons (ps_if (pt_cmpR (op_eqD hr.units) (pe_ix ix_tup (pv 0) pe_int (fun _ _ => rfl)) pe_str (nomark _)) (pss_one (ps_ret (pe_and (pe_callO O_law_fits hr (ha := (pa_cons (pe_ix ix_tup (pv 0) pe_int (fun _ _ => rfl)) (pa_cons (pe_ix ix_tup (pv 1) pe_int (fun _ _ => rfl)) (pa_cons (pe_ix ix_tup (pv 2) pe_int (fun _ _ => rfl)) pa_nil))))) (pe_one (pe_callO O_law_fits hr (ha := (pa_cons (pe_ix ix_tup (pv 0) pe_int (fun _ _ => rfl)) (pa_cons (pe_ix ix_tup (pv 1) pe_int (fun _ _ => rfl)) (pa_cons (pe_ix ix_tup (pv 2) pe_int (fun _ _ => rfl)) pa_nil))))))))) pss_nil) (pss_cons (ps_if (PW.pt (pw_or (pt_cmpR (op_neD hr.units) (pe_ix ix_tup (pv 0) pe_int (fun _ _ => rfl)) pe_str (nomark _)) (pw_or1 (pt_cmpR (op_eqD hr.units) (pe_ix ix_tup (pv 2) pe_int (fun _ _ => rfl)) pe_str (nomark _))))) (pss_one (ps_ret pe_bl)) pss_nil) (pss_cons (ps_if (pt_cmpR (op_neD hr.units) (pe_ix ix_tup (pe_ix ix_tup (pv 2) pe_int (fun _ _ => rfl)) pe_int (fun _ _ => rfl)) (pe_ix ix_tup (pv 1) pe_int (fun _ _ => rfl)) (nomark _)) (pss_one (ps_ret pe_bl)) pss_nil) (pss_one (ps_ret (pe_callO O_law_fits hr (ha := (pa_cons (pe_ix ix_tup (pv 0) (pe_ifExp (pt_cmpR (op_eqD hr.units) (pe_ix ix_tup (pv 1) pe_int (fun _ _ => rfl)) pe_str (nomark _)) pe_int pe_int) (fun _ _ => rfl)) (pa_cons (pe_ix ix_tup (pv 1) pe_int (fun _ _ => rfl)) (pa_cons (pe_ix ix_tup (pe_ix ix_tup (pv 2) pe_int (fun _ _ => rfl)) pe_int (fun _ _ => rfl)) pa_nil)))))))))), ?_⟩

    obtain ⟨ds, b, t, ⟨k, x, c, hd, rfl, rfl⟩, q⟩ := h
    obtain ⟨v, u, y, rfl, tv, tu, ty⟩ := tp3 t
    have G := growS
    cases k with
    | unit => exact EvS.run G (es_ifF G (EvT.eq (evt_k0 G tv "pair") tq_unit_pair) (es_ifT G (evt_orT (b := true) (EvT.eq (evt_k0n G tv "either") tn_unit_either)) (es_retB G (evb_c G) q)))
    | num => exact EvS.run G (es_ifF G (EvT.eq (evt_k0 G tv "pair") tq_num_pair) (es_ifT G (evt_orT (b := true) (EvT.eq (evt_k0n G tv "either") tn_num_either)) (es_retB G (evb_c G) q)))
    | bag a => exact EvS.run G (es_ifF G (EvT.eq (evt_k0 G tv "pair") tq_bag_pair) (es_ifT G (evt_orT (b := true) (EvT.eq (evt_k0n G tv "either") tn_bag_either)) (es_retB G (evb_c G) q)))
    | pair a b =>
      have hdep : (Kd.pair a b).dep = max a.dep b.dep + 1 := rfl
      have tu' : Tp H u (.tuple [.str "pair", enc a x.1, enc b x.2]) := tu
      have ty' : Tp H y (.tuple [.str "pair", enc a.D (show Vl a.D × Vl b.D from c).1, enc b.D (show Vl a.D × Vl b.D from c).2]) := ty
      refine EvS.run G (es_ifT G (EvT.eq (evt_k0 G tv "pair") tq_pair_pair) (es_retB G (b := fits a x.1 (show Vl a.D × Vl b.D from c).1 && fits b x.2 (show Vl a.D × Vl b.D from c).2) (evb_and G ?_ fun _ => ?_) q))
      · exact evb_call G (pre := preFits n) (eva_cons G (ev_ix1 G (ds := [.str "pair", encK a, encK b]) (ev_var G tv)) (eva_two G (ev_ix1 G (ev_var G tu')) (ev_ix1 G (ev_var G ty')))) ⟨a, x.1, _, by omega, rfl, rfl⟩
      · exact evb_call G (pre := preFits n) (eva_cons G (ev_ix2 G (ds := [.str "pair", encK a, encK b]) (ev_var G tv)) (eva_two G (ev_ix2 G (ev_var G tu')) (ev_ix2 G (ev_var G ty')))) ⟨b, x.2, _, by omega, rfl, rfl⟩
    | either a b =>
      have hdep : (Kd.either a b).dep = max a.dep b.dep + 1 := rfl
      match c, ty, q with
      | .inr z, ty, q =>
        have ty' : Tp H y (.tuple [.str "right", enc (.either a b) z]) := ty
        refine EvS.run G (es_ifF G (EvT.eq (evt_k0 G tv "pair") tq_either_pair) (es_ifT G (evt_orF G (EvT.eq (evt_k0n G tv "either") tn_either_either) (evt_eqS G (ev_ix0 G (ev_var G ty')) (ev_str G) ok_right ok_right tq_right_right)) (es_retB G (evb_c G) ?_)))
        intro H1 g
        have := q H1 g
        cases x <;> exact this
      | .inl (.inl z), ty, q =>
        have ty' : Tp H y (.tuple [.str "left", .tuple [.str "left", enc a.D z]]) := ty
        refine EvS.run G (es_ifF G (EvT.eq (evt_k0 G tv "pair") tq_either_pair) (es_ifF G (evt_orF G (EvT.eq (evt_k0n G tv "either") tn_either_either) (evt_eqS G (ev_ix0 G (ev_var G ty')) (ev_str G) ok_left ok_right tq_left_right)) ?_))
        have e1 := ev_ix1 (K := K) (R := Same) (σ := start ["_law_kind", "_law_value_here", "_law_change_here"] [v, u, y]) G (ev_var (i := 2) G ty')
        match x, tu, q with
        | .inl x, tu, q =>
          have tu' : Tp H u (.tuple [.str "left", enc a x]) := tu
          refine es_ifF G (evt_neS G (ev_ix0 G e1) (ev_ix0 G (ev_var G tu')) ok_left ok_left tn_left_left) (es_retB G (b := fits a x z) ?_ q)
          exact evb_call G (pre := preFits n) (eva_cons G (ev_sideL tv tu') (eva_two G (ev_ix1 G (ev_var G tu')) (ev_ix1 G e1))) ⟨a, x, z, by omega, rfl, rfl⟩
        | .inr x, tu, q =>
          have tu' : Tp H u (.tuple [.str "right", enc b x]) := tu
          exact es_ifT G (evt_neS G (ev_ix0 G e1) (ev_ix0 G (ev_var G tu')) ok_left ok_right tn_left_right) (es_retB G (b := false) (evb_c G) q)
      | .inl (.inr z), ty, q =>
        have ty' : Tp H y (.tuple [.str "left", .tuple [.str "right", enc b.D z]]) := ty
        refine EvS.run G (es_ifF G (EvT.eq (evt_k0 G tv "pair") tq_either_pair) (es_ifF G (evt_orF G (EvT.eq (evt_k0n G tv "either") tn_either_either) (evt_eqS G (ev_ix0 G (ev_var G ty')) (ev_str G) ok_left ok_right tq_left_right)) ?_))
        have e1 := ev_ix1 (K := K) (R := Same) (σ := start ["_law_kind", "_law_value_here", "_law_change_here"] [v, u, y]) G (ev_var (i := 2) G ty')
        match x, tu, q with
        | .inl x, tu, q =>
          have tu' : Tp H u (.tuple [.str "left", enc a x]) := tu
          exact es_ifT G (evt_neS G (ev_ix0 G e1) (ev_ix0 G (ev_var G tu')) ok_right ok_left tn_right_left) (es_retB G (b := false) (evb_c G) q)
        | .inr x, tu, q =>
          have tu' : Tp H u (.tuple [.str "right", enc b x]) := tu
          refine es_ifF G (evt_neS G (ev_ix0 G e1) (ev_ix0 G (ev_var G tu')) ok_right ok_right tn_right_right) (es_retB G (b := fits b x z) ?_ q)
          exact evb_call G (pre := preFits n) (eva_cons G (ev_sideR tv tu') (eva_two G (ev_ix1 G (ev_var G tu')) (ev_ix1 G e1))) ⟨b, x, z, by omega, rfl, rfl⟩
/-! _law_led -/
theorem sc_law_led : FnScope ["_law_kind", "_law_value_here", "_law_change_here"] ["_law_kind", "_law_value_here", "_law_change_here"] (defScope s_law_led) := ⟨rfl, rfl, rfl, by decide +kernel, rfl, by decide +kernel, by decide +kernel⟩
theorem ok_law_led (Z : Fs w K mg) : ∀ n, OkF P w K mg base "_law_led" ["_law_kind", "_law_value_here", "_law_change_here"] (n + 3) (spD (preLed n))
  | 0 => Z.f_law_led.ok (k := 2) sc_law_led (spD_len fun ds b ⟨k, v, c, _, _, _, _, _, e, _⟩ => by rw [e]; rfl) (fun _ _ _ _ _ _ us hl => match us, hl with | [_, _, _], _ => rfl) fun f cdv A outer s H vs Q E hr h => by
    obtain ⟨ds, b, t, ⟨k, v, c, _, hd, _⟩, q⟩ := h
    have := k.dep_pos
    exfalso
    omega
  | n + 1 => by
    have sc := sc_law_led
    have O_law_plus := ok_law_plus (P := P) (base := base) Z
    have O_law_many := ok_law_many (P := P) (base := base) Z
    have O_law_led := ok_law_led Z n
    refine Z.f_law_led.ok (k := n + 3) sc (spD_len fun ds b ⟨k, v, c, _, _, _, _, _, e, _⟩ => by rw [e]; rfl) (fun _ _ _ _ _ _ us hl => match us, hl with | [_, _, _], _ => rfl) fun f cdv A outer s H vs Q E hr h => ?_
    refine ⟨_, (pss_cons (ps_if (pt_cmpR (op_eqD hr.units) (pe_ix ix_tup (pv 0) pe_int (fun _ _ => rfl)) pe_str (nomark _)) (pss_one (ps_ret (pe_tupN pa_nil))) pss_nil) (pss_cons (ps_if (pt_cmpR op_in_seq (pe_ix ix_tup (pv 0) pe_int (fun _ _ => rfl)) (pe_tupN (pa_cons pe_str (pa_cons pe_str pa_nil))) rfl) (pss_one (ps_ret (pe_callO O_law_plus hr (ha := (pa_cons (pv 1) (pa_cons (pv 2) pa_nil)))))) pss_nil) (pss_cons (ps_if (pt_cmpR (op_eqD hr.units) (pe_ix ix_tup (pv 0) pe_int (fun _ _ => rfl)) pe_str (nomark _)) (pss_one (ps_ret (pe_tupN (pa_cons pe_str (pa_cons (pe_callO O_law_led hr (ha := (pa_cons (pe_ix ix_tup (pv 0) pe_int (fun _ _ => rfl)) (pa_cons (pe_ix ix_tup (pv 1) pe_int (fun _ _ => rfl)) (pa_cons (pe_ix ix_tup (pv 2) pe_int (fun _ _ => rfl)) pa_nil))))) (pa_cons (pe_callO O_law_led hr (ha := (pa_cons (pe_ix ix_tup (pv 0) pe_int (fun _ _ => rfl)) (pa_cons (pe_ix ix_tup (pv 1) pe_int (fun _ _ => rfl)) (pa_cons (pe_ix ix_tup (pv 2) pe_int (fun _ _ => rfl)) pa_nil))))) pa_nil)))))) pss_nil) (pss_cons (ps_if (pt_cmpR (op_eqD hr.units) (pe_ix ix_tup (pv 2) pe_int (fun _ _ => rfl)) pe_str (nomark _)) (pss_one (ps_ret (pe_ix ix_tup (pv 2) pe_int (fun _ _ => rfl)))) pss_nil) (pss_cons (ps_if (pt_cmpR (op_neD hr.units) (pe_ix ix_tup (pe_ix ix_tup (pv 2) pe_int (fun _ _ => rfl)) pe_int (fun _ _ => rfl)) (pe_ix ix_tup (pv 1) pe_int (fun _ _ => rfl)) (nomark _)) (pss_one (ps_ret (pv 1))) pss_nil) (pss_one (ps_ret (pe_tupN (pa_cons (pe_ix ix_tup (pv 1) pe_int (fun _ _ => rfl)) (pa_cons (pe_callO O_law_led hr (ha := (pa_cons (pe_ix ix_tup (pv 0) (pe_ifExp (pt_cmpR (op_eqD hr.units) (pe_ix ix_tup (pv 1) pe_int (fun _ _ => rfl)) pe_str (nomark _)) pe_int pe_int) (fun _ _ => rfl)) (pa_cons (pe_ix ix_tup (pv 1) pe_int (fun _ _ => rfl)) (pa_cons (pe_ix ix_tup (pe_ix ix_tup (pv 2) pe_int (fun _ _ => rfl)) pe_int (fun _ _ => rfl)) pa_nil))))) pa_nil)))))))))), ?_⟩

    obtain ⟨ds, b, t, ⟨k, x, c, ok, hd, h8, gv, gc, rfl, rfl⟩, q⟩ := h
    obtain ⟨v, u, y, rfl, tv, tu, ty⟩ := tp3 t
    have G := growS
    cases k with
    | unit => exact EvS.run G (es_ifT G (EvT.eq (evt_k0 G tv "unit") tq_unit_unit) (es_ret G (ev_tup G (eva_nil G)) q))
    | num => exact EvS.run G (es_ifF G (EvT.eq (evt_k0 G tv "unit") tq_num_unit) (es_ifT G (EvT.eq (evt_nb tv) nb_n) (es_ret G (ev_call G (pre := preLPlus) (eva_two G (ev_var G tu) (ev_var G ty)) (.inl ⟨toI x, toI c, rfl, rfl⟩)) q)))
    | bag a =>
      have hdep : (Kd.bag a).dep = a.dep + 1 := rfl
      refine EvS.run G (es_ifF G (EvT.eq (evt_k0 G tv "unit") tq_bag_unit) (es_ifT G (EvT.eq (evt_nb tv) nb_b) (es_ret G (ev_call G (pre := preLPlus) (eva_two G (ev_var G tu) (ev_var G ty)) (.inr ⟨a, x, c, ok, by omega, ?_, rfl, rfl⟩)) q)))
      have h1 : (show List (Vl a × Int) from x).length ≤ 30 := gv.sm.1
      have h2 : (show List (Vl a × Int) from c).length ≤ 30 := gc.sm.1
      have h3 : (show List (Vl a × Int) from x).length + (show List (Vl a × Int) from c).length < 64 := by omega
      exact h3
    | pair a b =>
      have hdep : (Kd.pair a b).dep = max a.dep b.dep + 1 := rfl
      obtain ⟨o1, o2⟩ := Bool.and_eq_true_iff.mp (show (a.ok && b.ok) = true from ok)
      have tu' : Tp H u (.tuple [.str "pair", enc a x.1, enc b x.2]) := tu
      have ty' : Tp H y (.tuple [.str "pair", enc a.D (show Vl a.D × Vl b.D from c).1, enc b.D (show Vl a.D × Vl b.D from c).2]) := ty
      refine EvS.run G (es_ifF G (EvT.eq (evt_k0 G tv "unit") tq_pair_unit) (es_ifF G (EvT.eq (evt_nb tv) nb_p) (es_ifT G (EvT.eq (evt_k0 G tv "pair") tq_pair_pair) (es_ret G (ev_tup G (ds := [.str "pair", enc a (led a x.1 (show Vl a.D × Vl b.D from c).1), enc b (led b x.2 (show Vl a.D × Vl b.D from c).2)]) (eva_cons G (ev_str G) (eva_two G ?_ ?_)) (show 3 ≤ 1000 by decide)) q))))
      · exact ev_call G (pre := preLed n) (eva_cons G (ev_ix1 G (ds := [.str "pair", encK a, encK b]) (ev_var G tv)) (eva_two G (ev_ix1 G (ev_var G tu')) (ev_ix1 G (ev_var G ty')))) ⟨a, x.1, _, o1, by omega, by omega, ⟨gv.ok.1, gv.sm.1⟩, ⟨gc.ok.1, gc.sm.1⟩, rfl, rfl⟩
      · exact ev_call G (pre := preLed n) (eva_cons G (ev_ix2 G (ds := [.str "pair", encK a, encK b]) (ev_var G tv)) (eva_two G (ev_ix2 G (ev_var G tu')) (ev_ix2 G (ev_var G ty')))) ⟨b, x.2, _, o2, by omega, by omega, ⟨gv.ok.2, gv.sm.2⟩, ⟨gc.ok.2, gc.sm.2⟩, rfl, rfl⟩
    | either a b =>
      have hdep : (Kd.either a b).dep = max a.dep b.dep + 1 := rfl
      obtain ⟨o1, o2⟩ := Bool.and_eq_true_iff.mp (show (a.ok && b.ok) = true from ok)
      match c, gc, ty, q with
      | .inr z, gc, ty, q =>
        have ty' : Tp H y (.tuple [.str "right", enc (.either a b) z]) := ty
        refine EvS.run G (es_ifF G (EvT.eq (evt_k0 G tv "unit") tq_either_unit) (es_ifF G (EvT.eq (evt_nb tv) nb_e) (es_ifF G (EvT.eq (evt_k0 G tv "pair") tq_either_pair) (es_ifT G (evt_eqS G (ev_ix0 G (ev_var G ty')) (ev_str G) ok_right ok_right tq_right_right) (es_ret G (ev_ix1 G (ev_var G ty')) ?_)))))
        intro v1 H1 g t1
        refine q v1 H1 g ?_
        cases x <;> exact t1
      | .inl (.inl z), gc, ty, q =>
        have ty' : Tp H y (.tuple [.str "left", .tuple [.str "left", enc a.D z]]) := ty
        refine EvS.run G (es_ifF G (EvT.eq (evt_k0 G tv "unit") tq_either_unit) (es_ifF G (EvT.eq (evt_nb tv) nb_e) (es_ifF G (EvT.eq (evt_k0 G tv "pair") tq_either_pair) (es_ifF G (evt_eqS G (ev_ix0 G (ev_var G ty')) (ev_str G) ok_left ok_right tq_left_right) ?_))))
        have e1 := ev_ix1 (K := K) (R := Same) (σ := start ["_law_kind", "_law_value_here", "_law_change_here"] [v, u, y]) G (ev_var (i := 2) G ty')
        match x, tu, gv, q with
        | .inl x, tu, gv, q =>
          have tu' : Tp H u (.tuple [.str "left", enc a x]) := tu
          refine es_ifF G (evt_neS G (ev_ix0 G e1) (ev_ix0 G (ev_var G tu')) ok_left ok_left tn_left_left) (es_ret G (d := .tuple [.str "left", enc a (led a x z)]) (ev_tup G (eva_two G (ev_ix0 G (ev_var G tu')) ?_) (show 2 ≤ 1000 by decide)) q)
          exact ev_call G (pre := preLed n) (eva_cons G (ev_sideL tv tu') (eva_two G (ev_ix1 G (ev_var G tu')) (ev_ix1 G e1))) ⟨a, x, z, o1, by omega, by omega, ⟨gv.ok, gv.sm⟩, ⟨gc.ok, gc.sm⟩, rfl, rfl⟩
        | .inr x, tu, gv, q =>
          have tu' : Tp H u (.tuple [.str "right", enc b x]) := tu
          exact es_ifT G (evt_neS G (ev_ix0 G e1) (ev_ix0 G (ev_var G tu')) ok_left ok_right tn_left_right) (es_ret G (d := .tuple [.str "right", enc b x]) (ev_var G tu') q)
      | .inl (.inr z), gc, ty, q =>
        have ty' : Tp H y (.tuple [.str "left", .tuple [.str "right", enc b.D z]]) := ty
        refine EvS.run G (es_ifF G (EvT.eq (evt_k0 G tv "unit") tq_either_unit) (es_ifF G (EvT.eq (evt_nb tv) nb_e) (es_ifF G (EvT.eq (evt_k0 G tv "pair") tq_either_pair) (es_ifF G (evt_eqS G (ev_ix0 G (ev_var G ty')) (ev_str G) ok_left ok_right tq_left_right) ?_))))
        have e1 := ev_ix1 (K := K) (R := Same) (σ := start ["_law_kind", "_law_value_here", "_law_change_here"] [v, u, y]) G (ev_var (i := 2) G ty')
        match x, tu, gv, q with
        | .inl x, tu, gv, q =>
          have tu' : Tp H u (.tuple [.str "left", enc a x]) := tu
          exact es_ifT G (evt_neS G (ev_ix0 G e1) (ev_ix0 G (ev_var G tu')) ok_right ok_left tn_right_left) (es_ret G (d := .tuple [.str "left", enc a x]) (ev_var G tu') q)
        | .inr x, tu, gv, q =>
          have tu' : Tp H u (.tuple [.str "right", enc b x]) := tu
          refine es_ifF G (evt_neS G (ev_ix0 G e1) (ev_ix0 G (ev_var G tu')) ok_right ok_right tn_right_right) (es_ret G (d := .tuple [.str "right", enc b (led b x z)]) (ev_tup G (eva_two G (ev_ix0 G (ev_var G tu')) ?_) (show 2 ≤ 1000 by decide)) q)
          exact ev_call G (pre := preLed n) (eva_cons G (ev_sideR tv tu') (eva_two G (ev_ix1 G (ev_var G tu')) (ev_ix1 G e1))) ⟨b, x, z, o2, by omega, by omega, ⟨gv.ok, gv.sm⟩, ⟨gc.ok, gc.sm⟩, rfl, rfl⟩
/-! _law_less -/
theorem less_nn {a : Kd} (pl : a.plain = true) (xs ys : List (Vl a × Int)) : norm (lt a) (xs ++ norm (lt a) (negB ys)) = norm (lt a) (xs ++ negB ys) := norm_congr (ltO pl) fun z => by rw [cnt_append, cnt_append, cnt_norm]
theorem sc_law_less : FnScope ["_law_kind", "_law_new", "_law_old"] ["_law_kind", "_law_new", "_law_old"] (defScope s_law_less) := ⟨rfl, rfl, rfl, by decide +kernel, rfl, by decide +kernel, by decide +kernel⟩
theorem ok_law_less (Z : Fs w K mg) : ∀ n, OkF P w K mg base "_law_less" ["_law_kind", "_law_new", "_law_old"] (n + 3) (spD (preLess n))
  | 0 => Z.f_law_less.ok (k := 2) sc_law_less (spD_len fun ds b ⟨k, v, c, _, _, _, _, _, e, _⟩ => by rw [e]; rfl) (fun _ _ _ _ _ _ us hl => match us, hl with | [_, _, _], _ => rfl) fun f cdv A outer s H vs Q E hr h => by
    obtain ⟨ds, b, t, ⟨k, v, c, _, hd, _⟩, q⟩ := h
    have := k.dep_pos
    exfalso
    omega
  | n + 1 => by
    have sc := sc_law_less
    have O_law_plus := ok_law_plus (P := P) (base := base) Z
    have O_law_many := ok_law_many (P := P) (base := base) Z
    have O_law_less := ok_law_less Z n
    refine Z.f_law_less.ok (k := n + 3) sc (spD_len fun ds b ⟨k, v, c, _, _, _, _, _, e, _⟩ => by rw [e]; rfl) (fun _ _ _ _ _ _ us hl => match us, hl with | [_, _, _], _ => rfl) fun f cdv A outer s H vs Q E hr h => ?_
    refine ⟨_, (pss_cons (ps_if (pt_cmpR (op_eqD hr.units) (pe_ix ix_tup (pv 0) pe_int (fun _ _ => rfl)) pe_str (nomark _)) (pss_one (ps_ret (pe_tupN pa_nil))) pss_nil) (pss_cons (ps_if (pt_cmpR op_in_seq (pe_ix ix_tup (pv 0) pe_int (fun _ _ => rfl)) (pe_tupN (pa_cons pe_str (pa_cons pe_str pa_nil))) rfl) (pss_one (ps_ret (pe_callO O_law_plus hr (ha := (pa_cons (pv 1) (pa_cons (pe_callO O_law_many hr (ha := (pa_cons (pe_un un_neg pe_int) (pa_cons (pv 2) pa_nil)))) pa_nil)))))) pss_nil) (pss_cons (ps_if (pt_cmpR (op_eqD hr.units) (pe_ix ix_tup (pv 0) pe_int (fun _ _ => rfl)) pe_str (nomark _)) (pss_one (ps_ret (pe_tupN (pa_cons pe_str (pa_cons (pe_callO O_law_less hr (ha := (pa_cons (pe_ix ix_tup (pv 0) pe_int (fun _ _ => rfl)) (pa_cons (pe_ix ix_tup (pv 1) pe_int (fun _ _ => rfl)) (pa_cons (pe_ix ix_tup (pv 2) pe_int (fun _ _ => rfl)) pa_nil))))) (pa_cons (pe_callO O_law_less hr (ha := (pa_cons (pe_ix ix_tup (pv 0) pe_int (fun _ _ => rfl)) (pa_cons (pe_ix ix_tup (pv 1) pe_int (fun _ _ => rfl)) (pa_cons (pe_ix ix_tup (pv 2) pe_int (fun _ _ => rfl)) pa_nil))))) pa_nil)))))) pss_nil) (pss_cons (ps_if (pt_cmpR (op_neD hr.units) (pe_ix ix_tup (pv 1) pe_int (fun _ _ => rfl)) (pe_ix ix_tup (pv 2) pe_int (fun _ _ => rfl)) (nomark _)) (pss_one (ps_ret (pe_tupN (pa_cons pe_str (pa_cons (pv 1) pa_nil))))) pss_nil) (pss_one (ps_ret (pe_tupN (pa_cons pe_str (pa_cons (pe_tupN (pa_cons (pe_ix ix_tup (pv 1) pe_int (fun _ _ => rfl)) (pa_cons (pe_callO O_law_less hr (ha := (pa_cons (pe_ix ix_tup (pv 0) (pe_ifExp (pt_cmpR (op_eqD hr.units) (pe_ix ix_tup (pv 1) pe_int (fun _ _ => rfl)) pe_str (nomark _)) pe_int pe_int) (fun _ _ => rfl)) (pa_cons (pe_ix ix_tup (pv 1) pe_int (fun _ _ => rfl)) (pa_cons (pe_ix ix_tup (pv 2) pe_int (fun _ _ => rfl)) pa_nil))))) pa_nil))) pa_nil))))))))), ?_⟩

    obtain ⟨ds, b, t, ⟨k, x, c, ok, hd, h8, gv, gc, rfl, rfl⟩, q⟩ := h
    obtain ⟨v, u, y, rfl, tv, tu, ty⟩ := tp3 t
    have G := growS
    cases k with
    | unit => exact EvS.run G (es_ifT G (EvT.eq (evt_k0 G tv "unit") tq_unit_unit) (es_ret G (ev_tup G (eva_nil G)) q))
    | num => exact EvS.run G (es_ifF G (EvT.eq (evt_k0 G tv "unit") tq_num_unit) (es_ifT G (EvT.eq (evt_nb tv) nb_n) (es_ret G (ev_call G (pre := preLPlus) (eva_two G (ev_var G tu) (ev_call G (pre := preLMany) (eva_two G (ev_un G (ev_int G)) (ev_var G ty)) (.inl ⟨toI c, rfl, rfl⟩))) (.inl ⟨toI x, -1 * toI c, rfl, rfl⟩)) q)))
    | bag a =>
      have hdep : (Kd.bag a).dep = a.dep + 1 := rfl
      have h1 : (show List (Vl a × Int) from x).length ≤ 30 := gv.sm.1
      have h2 : (show List (Vl a × Int) from c).length ≤ 30 := gc.sm.1
      have h3 : (norm (lt a) (negB (show List (Vl a × Int) from c))).length ≤ 30 := Nat.le_trans (norm_len _) (by rw [neg_len]; exact h2)
      refine EvS.run G (es_ifF G (EvT.eq (evt_k0 G tv "unit") tq_bag_unit) (es_ifT G (EvT.eq (evt_nb tv) nb_b) (es_ret G (ev_call G (pre := preLPlus) (eva_two G (ev_var G tu) (ev_call G (pre := preLMany) (eva_two G (ev_un G (ev_int G)) (ev_var G ty)) (.inr ⟨a, c, ok, by omega, Nat.lt_of_le_of_lt h2 (by decide), rfl, rfl⟩))) (.inr ⟨a, x, norm (lt a) (negB c), ok, by omega, ?_, rfl, rfl⟩)) ?_)))
      · have h4 : (show List (Vl a × Int) from x).length + (norm (lt a) (negB (show List (Vl a × Int) from c))).length < 64 := by omega
        exact h4
      · intro v1 H1 g t1
        exact q v1 H1 g ((congrArg (fun l => Tp H1 v1 (enc (.bag a) l)) (less_nn ok x c)).mp t1)
    | pair a b =>
      have hdep : (Kd.pair a b).dep = max a.dep b.dep + 1 := rfl
      obtain ⟨o1, o2⟩ := Bool.and_eq_true_iff.mp (show (a.ok && b.ok) = true from ok)
      have tu' : Tp H u (.tuple [.str "pair", enc a x.1, enc b x.2]) := tu
      have ty' : Tp H y (.tuple [.str "pair", enc a c.1, enc b c.2]) := ty
      refine EvS.run G (es_ifF G (EvT.eq (evt_k0 G tv "unit") tq_pair_unit) (es_ifF G (EvT.eq (evt_nb tv) nb_p) (es_ifT G (EvT.eq (evt_k0 G tv "pair") tq_pair_pair) (es_ret G (ev_tup G (ds := [.str "pair", enc a.D (less a x.1 c.1), enc b.D (less b x.2 c.2)]) (eva_cons G (ev_str G) (eva_two G ?_ ?_)) (show 3 ≤ 1000 by decide)) q))))
      · exact ev_call G (pre := preLess n) (eva_cons G (ev_ix1 G (ds := [.str "pair", encK a, encK b]) (ev_var G tv)) (eva_two G (ev_ix1 G (ev_var G tu')) (ev_ix1 G (ev_var G ty')))) ⟨a, x.1, c.1, o1, by omega, by omega, ⟨gv.ok.1, gv.sm.1⟩, ⟨gc.ok.1, gc.sm.1⟩, rfl, rfl⟩
      · exact ev_call G (pre := preLess n) (eva_cons G (ev_ix2 G (ds := [.str "pair", encK a, encK b]) (ev_var G tv)) (eva_two G (ev_ix2 G (ev_var G tu')) (ev_ix2 G (ev_var G ty')))) ⟨b, x.2, c.2, o2, by omega, by omega, ⟨gv.ok.2, gv.sm.2⟩, ⟨gc.ok.2, gc.sm.2⟩, rfl, rfl⟩
    | either a b =>
      have hdep : (Kd.either a b).dep = max a.dep b.dep + 1 := rfl
      obtain ⟨o1, o2⟩ := Bool.and_eq_true_iff.mp (show (a.ok && b.ok) = true from ok)
      match x, c, gv, gc, tu, ty, q with
      | .inl x, .inl z, gv, gc, tu, ty, q =>
        have tu' : Tp H u (.tuple [.str "left", enc a x]) := tu
        have ty' : Tp H y (.tuple [.str "left", enc a z]) := ty
        refine EvS.run G (es_ifF G (EvT.eq (evt_k0 G tv "unit") tq_either_unit) (es_ifF G (EvT.eq (evt_nb tv) nb_e) (es_ifF G (EvT.eq (evt_k0 G tv "pair") tq_either_pair) (es_ifF G (evt_neS G (ev_ix0 G (ev_var G tu')) (ev_ix0 G (ev_var G ty')) ok_left ok_left tn_left_left) (es_ret G (d := .tuple [.str "left", .tuple [.str "left", enc a.D (less a x z)]]) (ev_tup G (eva_two G (ev_str G) (ev_tup G (eva_two G (ev_ix0 G (ev_var G tu')) ?_) (show 2 ≤ 1000 by decide))) (show 2 ≤ 1000 by decide)) q)))))
        exact ev_call G (pre := preLess n) (eva_cons G (ev_sideL tv tu') (eva_two G (ev_ix1 G (ev_var G tu')) (ev_ix1 G (ev_var G ty')))) ⟨a, x, z, o1, by omega, by omega, ⟨gv.ok, gv.sm⟩, ⟨gc.ok, gc.sm⟩, rfl, rfl⟩
      | .inl x, .inr z, gv, gc, tu, ty, q =>
        have tu' : Tp H u (.tuple [.str "left", enc a x]) := tu
        have ty' : Tp H y (.tuple [.str "right", enc b z]) := ty
        exact EvS.run G (es_ifF G (EvT.eq (evt_k0 G tv "unit") tq_either_unit) (es_ifF G (EvT.eq (evt_nb tv) nb_e) (es_ifF G (EvT.eq (evt_k0 G tv "pair") tq_either_pair) (es_ifT G (evt_neS G (ev_ix0 G (ev_var G tu')) (ev_ix0 G (ev_var G ty')) ok_left ok_right tn_left_right) (es_ret G (d := .tuple [.str "right", .tuple [.str "left", enc a x]]) (ev_tup G (eva_two G (ev_str G) (ev_var G tu')) (show 2 ≤ 1000 by decide)) q)))))
      | .inr x, .inl z, gv, gc, tu, ty, q =>
        have tu' : Tp H u (.tuple [.str "right", enc b x]) := tu
        have ty' : Tp H y (.tuple [.str "left", enc a z]) := ty
        exact EvS.run G (es_ifF G (EvT.eq (evt_k0 G tv "unit") tq_either_unit) (es_ifF G (EvT.eq (evt_nb tv) nb_e) (es_ifF G (EvT.eq (evt_k0 G tv "pair") tq_either_pair) (es_ifT G (evt_neS G (ev_ix0 G (ev_var G tu')) (ev_ix0 G (ev_var G ty')) ok_right ok_left tn_right_left) (es_ret G (d := .tuple [.str "right", .tuple [.str "right", enc b x]]) (ev_tup G (eva_two G (ev_str G) (ev_var G tu')) (show 2 ≤ 1000 by decide)) q)))))
      | .inr x, .inr z, gv, gc, tu, ty, q =>
        have tu' : Tp H u (.tuple [.str "right", enc b x]) := tu
        have ty' : Tp H y (.tuple [.str "right", enc b z]) := ty
        refine EvS.run G (es_ifF G (EvT.eq (evt_k0 G tv "unit") tq_either_unit) (es_ifF G (EvT.eq (evt_nb tv) nb_e) (es_ifF G (EvT.eq (evt_k0 G tv "pair") tq_either_pair) (es_ifF G (evt_neS G (ev_ix0 G (ev_var G tu')) (ev_ix0 G (ev_var G ty')) ok_right ok_right tn_right_right) (es_ret G (d := .tuple [.str "left", .tuple [.str "right", enc b.D (less b x z)]]) (ev_tup G (eva_two G (ev_str G) (ev_tup G (eva_two G (ev_ix0 G (ev_var G tu')) ?_) (show 2 ≤ 1000 by decide))) (show 2 ≤ 1000 by decide)) q)))))
        exact ev_call G (pre := preLess n) (eva_cons G (ev_sideR tv tu') (eva_two G (ev_ix1 G (ev_var G tu')) (ev_ix1 G (ev_var G ty')))) ⟨b, x, z, o2, by omega, by omega, ⟨gv.ok, gv.sm⟩, ⟨gc.ok, gc.sm⟩, rfl, rfl⟩
end
end Cw
/-! part CwU -/
set_option Elab.async false
set_option linter.all false
set_option maxRecDepth 100000
set_option maxHeartbeats 1000000
/-! The urn: a list of three numbers that only the drawing defs change. -/
namespace Cw
open PySem PySem.Spec PyProof.Rows L2
def Urn (H : Hp) (u : Addr) : Prop := ∃ n s c : Int, H u = some (.lst [.int n, .int s, .int c]) ∧ 0 ≤ n
def RU (u : Addr) (H H' : Hp) : Prop := (∀ b o, b ≠ u → H b = some o → H' b = some o) ∧ TK H H' ∧ (Urn H u → Urn H' u)
theorem growU (u : Addr) : Grow (RU u) :=
  ⟨fun H => ⟨fun _ _ _ h => h, fun _ _ _ h => h, fun h => h⟩, fun a b => ⟨fun c o n h => b.1 c o n (a.1 c o n h), fun c o x h => b.2.1 c o x (a.2.1 c o x h), fun h => b.2.2 (a.2.2 h)⟩, fun a => a.2.1,
    fun s => ⟨fun b o _ h => s b o h, TK.same s, fun ⟨n, x, c, e, h⟩ => ⟨n, x, c, s _ _ e, h⟩⟩⟩
theorem RU.put {u : Addr} {H : Hp} {n s c n' s' c' : Int} (e : H u = some (.lst [.int n, .int s, .int c])) (h : 0 ≤ n') : RU u H (upd H u (.lst [.int n', .int s', .int c'])) :=
  ⟨fun b o ne q => by rw [upd_ne ne]; exact q, fun b o x q => by rw [upd_ne (fun z => by rw [z, e] at q; cases q)]; exact q, fun _ => ⟨n', s', c', upd_same, h⟩⟩
/-! results that are one of several -/
def EvE (R : Hp → Hp → Prop) (te : TE) (σ : L2.St) (H : Hp) (Pd : PyData → Prop) : Prop := ∀ H1, R H H1 → ∀ Q : VK, (∀ v d H2, R H1 H2 → Tp H2 v d → Pd d → Q v H2) → te σ H1 Q
def EvAE (R : Hp → Hp → Prop) (ta : TA) (σ : L2.St) (H : Hp) (Ps : List PyData → Prop) : Prop := ∀ H1, R H H1 → ∀ Q : List V → Hp → Prop, (∀ vs ds H2, R H1 H2 → TpAll H2 vs ds → Ps ds → Q vs H2) → ta σ H1 Q
section
variable {R : Hp → Hp → Prop} {K : PySem.W.Frag} {σ : L2.St} {H : Hp} {ta tb te : TE} {t u : TT} {d e : PyData} {v : V} {D : Ends} {ts tw tz : TS} {Pd Pe : PyData → Prop}
theorem EvD.eve (h : EvD R te σ H d) (hp : Pd d) : EvE R te σ H Pd := fun H1 g Q q => h H1 g _ fun v H2 g2 t => q v d H2 g2 t hp
theorem EvE.imp (h : EvE R te σ H Pd) (hp : ∀ d, Pd d → Pe d) : EvE R te σ H Pe := fun H1 g Q q => h H1 g _ fun v d H2 g2 t p => q v d H2 g2 t (hp d p)
theorem EvE.mono (G : Grow R) {H' : Hp} (g : R H H') (h : EvE R te σ H Pd) : EvE R te σ H' Pd := fun H1 a Q q => h H1 (G.trans g a) Q q
theorem eae_nil (G : Grow R) : EvAE R tNil σ H (fun l => l = []) := fun H1 g Q q => q [] [] H1 (G.refl H1) .nil rfl
theorem eae_cons (G : Grow R) {tr : TA} {Ps : List PyData → Prop} (h : EvE R ta σ H Pd) (hr : EvAE R tr σ H Ps) : EvAE R (tCons ta tr) σ H (fun l => ∃ d r, l = d :: r ∧ Pd d ∧ Ps r) := fun H1 g Q q =>
  h H1 g _ fun v d H2 g2 t p => hr H2 (G.trans g g2) _ fun vs ds H3 g3 ts ps => q (v :: vs) (d :: ds) H3 (G.trans g2 g3) (.cons (t.mono (G.tk g3)) ts) ⟨d, ds, rfl, p, ps⟩
theorem eve_tup (G : Grow R) {tr : TA} {Ps : List PyData → Prop} (h : EvAE R tr σ H Ps) (hl : ∀ l, Ps l → l.length ≤ 1000) : EvE R (tTupN tr) σ H (fun d => ∃ l, d = .tuple l ∧ Ps l) := fun H1 g Q q =>
  h H1 g _ fun vs ds H2 g2 t p => ⟨by rw [t.len, sizeLine_eq]; have := hl ds p; omega, fun a o hn ho => q (.ref a) (.tuple ds) _ (G.trans g2 (G.same (same_new hn _))) (.tup ⟨o, ho, upd_same⟩ (t.mono (TK.same (same_new hn _)))) ⟨ds, rfl, p⟩⟩
theorem es_retE (G : Grow R) (h : EvE R te σ H Pd) (k : ∀ v d H1, R H H1 → Tp H1 v d → Pd d → D.rt v H1) : EvS R (tRet te) D σ H := fun H1 g => h H1 g _ fun v d H2 g2 t p => k v d H2 (G.trans g g2) t p
theorem es_setE (G : Grow R) {i : Nat} (h : EvE R te σ H Pd) (k : ∀ v d H1, R H H1 → Tp H1 v d → Pd d → EvS R tz D (σ.set i (some v)) H1) : EvS R (tSeq (tAsg te (gName i)) tz) D σ H := fun H1 g => h H1 g _ fun v d H2 g2 t p => k v d H2 (G.trans g g2) t p H2 (G.refl H2)
theorem eve_if (G : Grow R) {b : Bool} (h : EvT R t σ H b) (h1 : b = true → EvE R ta σ H Pd) (h2 : b = false → EvE R tb σ H Pd) : EvE R (tIf t ta tb) σ H Pd := fun H1 g Q q => h H1 g _ fun H2 g2 => by
  cases b with
  | true => exact iteT (h1 rfl H2 (G.trans g g2) Q fun v d H3 g3 t p => q v d H3 (G.trans g2 g3) t p)
  | false => exact iteF (h2 rfl H2 (G.trans g g2) Q fun v d H3 g3 t p => q v d H3 (G.trans g2 g3) t p)
/-- t[i], i one of several -/
theorem eve_ix (G : Grow R) {ds : List PyData} (ha : EvD R ta σ H (.tuple ds)) (hb : EvE R tb σ H (fun d => ∃ i : Int, d = .int i ∧ 0 ≤ i ∧ i < ds.length)) : EvE R (tOp (rIxT K) ta tb) σ H (fun d => d ∈ ds) := fun H1 g Q q =>
  ha H1 g _ fun v H2 g2 t2 => hb H2 (G.trans g g2) _ fun w d H3 g3 t3 ⟨i, e, h0, h1⟩ => by
    subst e
    obtain ⟨a, xs, rfl, ea, tt⟩ := (t2.mono (G.tk g3)).tup_of
    have hi : i.toNat < ds.length := by omega
    obtain ⟨x, hx, tx⟩ := tt.get (i := i.toNat) (d := ds[i.toNat]) (List.getElem?_eq_getElem hi)
    rw [t3.int_of]
    exact ⟨a, xs, i, x, rfl, rfl, ea.sq, by rw [show i = ((i.toNat : Nat) : Int) from by omega]; exact atI_nat hx, q x _ H3 (G.trans g2 g3) tx (List.getElem_mem hi)⟩
/-- promises of the drawing defs: the urn first -/
def spU (pre : List PyData → (PyData → Prop) → Prop) : Sp := fun vs H Q _ => ∃ (u : Addr) (rest : List V) (ds : List PyData) (Pd : PyData → Prop), vs = .ref u :: rest ∧ Urn H u ∧ TpAll H rest ds ∧ pre ds Pd ∧ ∀ v d H', RU u H H' → Tp H' v d → Pd d → Q v H'
theorem spU_len {n : Nat} {pre : List PyData → (PyData → Prop) → Prop} (h : ∀ ds Pd, pre ds Pd → ds.length = n) : ∀ vs H Q E, spU pre vs H Q E → vs.length = n + 1 := fun vs H Q E ⟨u, r, ds, Pd, e, _, t, p, _⟩ => by rw [e, List.length_cons, t.len, h ds Pd p]
theorem eve_call {a : Addr} {i : Nat} {pre : List PyData → (PyData → Prop) → Prop} {ta : TA} {ds : List PyData} (U : Urn H a) (ha : EvA (RU a) ta σ H ds) (hp : pre ds Pd) (hs : σ[i]? = some (some (.ref a)) := by rfl) : EvE (RU a) (tCall (spU pre) [] E0 (tCons (tVar i) ta)) σ H Pd := fun H1 g Q q =>
  ⟨.ref a, hs, ha H1 g _ fun vs H2 g2 t2 => ⟨a, vs, ds, Pd, by rw [List.append_nil], ((growU a).trans g g2).2.2 U, t2, hp, fun v d H3 g3 t p => q v d H3 ((growU a).trans g2 g3) t p⟩⟩
/-- int(i) -/
theorem ev_int1 {i : Int} (h : EvD R te σ H (.int i)) : EvD R (tCB (fun xs H Q => (∃ i, xs = [.int i] ∧ Q (.int i) H) ∨ ∃ k, xs = [.bl k] ∧ Q (.int (if k then 1 else 0)) H) (tCons te tNil)) σ H (.int i) := fun H1 g Q q =>
  h H1 g _ fun v H2 g2 t => .inl ⟨i, by rw [t.int_of], q _ H2 g2 (.int i)⟩
end
end Cw
/-! part CwC1 -/
set_option Elab.async false
set_option linter.all false
set_option maxRecDepth 100000
set_option maxHeartbeats 1000000
/-! Drawing: numbers, one of several, kinds. -/
namespace Cw
open PySem PySem.Spec PyProof.Rows L2
theorem cdivp {i j : Int} (h0 : 0 < j) (h1 : j < 2 ^ 60) : CDivP i j := by
  refine ⟨h0, ?_⟩
  have hl : j.natAbs.log2 < 60 := (Nat.log2_lt (by omega)).mpr (by omega)
  show (decide ((if j == 0 then 0 else j.natAbs.log2 / 30 + 1) > 300) && _) = false
  rw [if_neg (show ¬ (j == 0) = true by simpa using (show j ≠ 0 by omega)), decide_eq_false (by omega), Bool.false_and]
section
variable {P : Program} {w : World} {K : PySem.W.Frag} {mg : Str → Option Value} {base : Heap}
/-- the number at a place of the urn -/
theorem ev_urn {σ : L2.St} {H : Hp} {u : Addr} {i k : Nat} {ns : List Int} {n : Int} (e : H u = some (.lst (ns.map V.int))) (hk : ns[k]? = some n) (hs : σ[i]? = some (some (.ref u)) := by rfl) : EvD Same (tOp (rIxL K) (tVar i) (tC (.int (k : Int)))) σ H (.int n) := fun H1 g Q q =>
  ⟨.ref u, hs, u, ns.map V.int, (k : Int), .int n, rfl, rfl, .inl (.inl (g _ _ e)), atI_nat (by rw [List.getElem?_map, hk]; rfl), q _ H1 (Same.refl _) (.int n)⟩
def prePull : List PyData → (PyData → Prop) → Prop := fun ds Pd => ∃ top : Int, 0 < top ∧ top < 2 ^ 60 ∧ ds = [.int top] ∧ Pd = fun d => ∃ i : Int, d = .int i ∧ 0 ≤ i ∧ i < top
theorem ev_mod (G : Grow Same) {σ : L2.St} {H : Hp} {ta tb : TE} {i j : Int} (hj : 0 < j) (ha : EvD Same ta σ H (.int i)) (hb : EvD Same tb σ H (.int j)) : EvD Same (tOp (rI (fun _ j => 0 < j) fun i j => .int (i % j)) ta tb) σ H (.int (i % j)) := ev_intopC (g := fun i j => i % j) G ha hb hj
theorem ev_fdiv (G : Grow Same) {σ : L2.St} {H : Hp} {ta tb : TE} {i j : Int} (hj : CDiv i j) (ha : EvD Same ta σ H (.int i)) (hb : EvD Same tb σ H (.int j)) : EvD Same (tOp (rI CDiv fun i j => .int (i / j)) ta tb) σ H (.int (i / j)) := ev_intopC (g := fun i j => i / j) G ha hb hj
theorem ev_add (G : Grow Same) {σ : L2.St} {H : Hp} {ta tb : TE} {i j : Int} (ha : EvD Same ta σ H (.int i)) (hb : EvD Same tb σ H (.int j)) : EvD Same (tOp (rI0 fun i j => .int (i + j)) ta tb) σ H (.int (i + j)) := ev_intop (g := fun i j => i + j) G ha hb
theorem ev_sub (G : Grow Same) {σ : L2.St} {H : Hp} {ta tb : TE} {i j : Int} (ha : EvD Same ta σ H (.int i)) (hb : EvD Same tb σ H (.int j)) : EvD Same (tOp (rI0 fun i j => .int (i - j)) ta tb) σ H (.int (i - j)) := ev_intop (g := fun i j => i - j) G ha hb
theorem ev_mul (G : Grow Same) {σ : L2.St} {H : Hp} {ta tb : TE} {i j : Int} (hc : CMul i j) (ha : EvD Same ta σ H (.int i)) (hb : EvD Same tb σ H (.int j)) : EvD Same (tOp (rI CMul fun i j => .int (i * j)) ta tb) σ H (.int (i * j)) := ev_intopC (g := fun i j => i * j) G ha hb hc
theorem cmulR {i j : Int} (h : (-(2 ^ 64) : Int) < j ∧ j < 2 ^ 64) : CMul i j := .inr h
/-- urn[k] = n -/
theorem put_urn {σ : L2.St} {H : Hp} {te : TE} {D : Ends} {tz : TS} {u : Addr} {i k : Nat} {ns : List Int} {n : Int} (h : EvD Same te σ H (.int n)) (e : H u = some (.lst (ns.map V.int))) (hk : k < ns.length) (hs : σ[i]? = some (some (.ref u)))
    (q : ∀ H1, Same H H1 → tz D σ (upd H1 u (.lst ((ns.set k n).map V.int)))) : tSeq (tAsg te (gSub (tVar i) (tC (.int (k : Int))) rSetL)) tz D σ H := h H (Same.refl _) _ fun v H1 g t => by
  rw [t.int_of]
  refine ⟨.ref u, hs, u, ns.map V.int, (k : Int), k, rfl, rfl, g _ _ e, ?_, ?_⟩
  · have := atI_nat (xs := ns.map V.int) (j := k) (v := (ns.map V.int)[k]'(by rw [List.length_map]; exact hk)) (List.getElem?_eq_getElem _)
    unfold atI at this
    cases q2 : ixN (ns.map V.int).length (k : Int) with
    | none => rw [q2] at this; cases this
    | some j =>
      have hj : j = k := by
        unfold ixN at q2
        split at q2
        · split at q2
          · cases q2; omega
          · cases q2
        · split at q2
          · omega
          · cases q2
      rw [hj]
  · have := q H1 g
    rw [List.map_set] at this
    exact this
end
end Cw
/-! part CwC2 -/
set_option Elab.async false
set_option linter.all false
set_option maxRecDepth 100000
set_option maxHeartbeats 1000000
/-! _law_pull, _law_one, the kinds that are drawn. -/
namespace Cw
open PySem PySem.Spec PyProof.Rows L2
section
variable {P : Program} {w : World} {K : PySem.W.Frag} {mg : Str → Option Value} {base : Heap}
theorem sc_law_pull : FnScope ["_law_urn_here", "_law_top", "_law_digit", "_law_seed"] ["_law_urn_here", "_law_top"] (defScope s_law_pull) := ⟨rfl, rfl, rfl, by decide +kernel, rfl, by decide +kernel, by decide +kernel⟩
theorem ok_law_pull (Z : Fs w K mg) : OkF P w K mg base "_law_pull" ["_law_urn_here", "_law_top"] 1 (spU prePull) := by
  have sc := sc_law_pull
  refine Z.f_law_pull.ok sc (spU_len fun ds Pd ⟨top, _, _, e, _⟩ => by rw [e]; rfl) (fun _ _ _ _ _ _ us hl => match us, hl with | [_, _], _ => rfl) fun f cdv A outer s H vs Q E hr h => ?_
  refine ⟨_, (pss_cons (ps_if (pt_cmpR op_gt (pe_ix ix_list (pv 0) pe_int (fun _ _ => rfl)) pe_int (nomark _)) (pss_cons (ps_asg (pe_callB call_divmodW rfl Z.zdivmod boot_divmod (pa_cons (pe_ix ix_list (pv 0) pe_int (fun _ _ => rfl)) (pa_cons (pv 1) pa_nil))) (pg_tup rfl (pgs_cons (pg_sub (pv 0) pe_int set_list) (pgs_cons (pg_name sc.nd (i := 2) rfl (by first | exact Or.inl rfl | exact Or.inr rfl)) pgs_nil)))) (pss_one (ps_ret (pv 2)))) pss_nil) (pss_cons (ps_asg (pe_op op_add (pe_ix ix_list (pv 0) pe_int (fun _ _ => rfl)) pe_int) (pg_sub (pv 0) pe_int set_list)) (pss_cons (ps_set (i := 3) sc.nd rfl (by first | exact Or.inl rfl | exact Or.inr rfl) (pe_op op_mod (pe_callTy call_int1 rfl Z.zint boot_int (pa_cons (pe_op op_add (pe_op op_add (pe_op op_mul (pe_ix ix_list (pv 0) pe_int (fun _ _ => rfl)) pe_int) (pe_op op_mul (pe_ix ix_list (pv 0) pe_int (fun _ _ => rfl)) pe_int)) pe_int) pa_nil)) pe_int)) (pss_cons (ps_asg (pv 3) (pg_sub (pv 0) pe_int set_list)) (pss_one (ps_ret (pe_op op_mod (pe_callTy call_int1 rfl Z.zint boot_int (pa_cons (pe_op op_fdiv (pe_op op_mod (pe_callTy call_int1 rfl Z.zint boot_int (pa_cons (pe_op op_mul (pv 3) (pe_op op_add (pe_op op_mod (pe_callTy call_int1 rfl Z.zint boot_int (pa_cons (pv 3) pa_nil)) pe_int) pe_int)) pa_nil)) pe_int) pe_int) pa_nil)) (pv 1)))))))), ?_⟩
  obtain ⟨u, rest, ds, Pd, rfl, ⟨n, sd, c, e, hn⟩, t, ⟨top, h0, h1, rfl, rfl⟩, q⟩ := h
  obtain ⟨tv, rfl, tt⟩ := tp1 t
  obtain rfl := tt.int_of
  have G := growS
  have fin : ∀ (i : Int) H', 0 ≤ i → i < top → RU u H H' → Q (.int i) H' := fun i H' a b r => q _ _ H' r (.int i) ⟨i, rfl, a, b⟩
  have e' : H u = some (.lst ([n, sd, c].map V.int)) := e
  by_cases hp : 0 < n
  · refine EvS.run G (es_ifT G (EvT.eq (evt_test (evb_gt G (ev_urn (k := 0) e' rfl) (ev_int G))) (decide_eq_true hp)) fun H1 g => ?_)
    refine (ev_urn (K := K) (k := 0) (i := 0) (ns := [n, sd, c]) e' rfl rfl) H1 g _ fun v H2 g2 t2 => ⟨.int top, rfl, n, top, by rw [t2.int_of], cdivp h0 h1, fun p hpn => ?_⟩
    have gp := (g.trans g2).trans (same_new hpn (.tup [.int (n / top), .int (n % top)]))
    refine ⟨p, _, rfl, SqT.of upd_same, rfl, .int (n / top), _, rfl, .ref u, rfl, u, [.int n, .int sd, .int c], 0, 0, rfl, rfl, gp _ _ e, rfl, .int (n % top), [], rfl, rfl, ?_⟩
    refine ⟨.int (n % top), rfl, fin _ _ (Int.emod_nonneg _ (by omega)) (Int.emod_lt_of_pos _ h0) ((growU u).trans ((growU u).same gp) (RU.put (n' := n / top) (s' := sd) (c' := c) (gp _ _ e) (Int.ediv_nonneg hn (by omega))))⟩
  · refine EvS.run G (es_ifF G (EvT.eq (evt_test (evb_gt G (ev_urn (k := 0) e' rfl) (ev_int G))) (decide_eq_false hp)) fun H1 g => ?_)
    have e1 : H1 u = some (.lst ([n, sd, c].map V.int)) := g _ _ e
    refine put_urn (k := 2) (ns := [n, sd, c]) (ev_add G (ev_urn (k := 2) e1 rfl) (ev_int G)) e1 (ltr rfl) rfl fun H2 g2 => ?_
    have r2 : RU u H (upd H2 u (.lst (([n, sd, c].set 2 (c + 1)).map V.int))) := (growU u).trans ((growU u).same (g.trans g2)) (RU.put (n' := n) (s' := sd) (c' := c + 1) (g2 _ _ e1) hn)
    have e2 : (upd H2 u (.lst (([n, sd, c].set 2 (c + 1)).map V.int))) u = some (.lst ([n, sd, c + 1].map V.int)) := upd_same
    refine q_set G (ev_mod G (by decide) (ev_int1 (ev_add G (ev_add G (ev_mul G (cmulR (by decide)) (ev_urn (k := 1) e2 rfl) (ev_int G)) (ev_mul G (cmulR (by decide)) (ev_urn (k := 2) e2 rfl) (ev_int G))) (ev_int G))) (ev_int G)) fun v H3 g3 t3 => ?_
    have e3 : H3 u = some (.lst ([n, sd, c + 1].map V.int)) := g3 _ _ e2
    refine put_urn (k := 1) (ns := [n, sd, c + 1]) (ev_var G t3) e3 (ltr rfl) rfl fun H4 g4 => ?_
    have t4 := (t3.mono (TK.same g4)).int_of
    subst t4
    have hz : 0 ≤ (sd * 39373 + (c + 1) * 50021 + 11) % 2147483563 ∧ (sd * 39373 + (c + 1) * 50021 + 11) % 2147483563 < 2147483563 := ⟨Int.emod_nonneg _ (by decide), Int.emod_lt_of_pos _ (by decide)⟩
    generalize (sd * 39373 + (c + 1) * 50021 + 11) % 2147483563 = z at *
    have r4 : RU u H (upd H4 u (.lst (([n, sd, c + 1].set 1 z).map V.int))) := (growU u).trans r2 ((growU u).trans ((growU u).same (g3.trans g4)) (RU.put (n' := n) (s' := z) (c' := c + 1) (g4 _ _ e3) hn))
    have tz : Tp (upd H4 u (.lst (([n, sd, c + 1].set 1 z).map V.int))) (.int z) (.int z) := .int z
    refine EvS.run G (es_ret G (ev_mod G h0 (ev_int1 (ev_fdiv G ⟨by decide, by decide⟩ (ev_mod G (by decide) (ev_int1 (ev_mul G (cmulR ?_) (ev_var G tz) (ev_add G (ev_mod G (by decide) (ev_int1 (ev_var G tz)) (ev_int G)) (ev_int G)))) (ev_int G)) (ev_int G))) (ev_var G (.int top))) fun v5 H5 g5 t5 => ?_)
    · omega
    · rw [t5.int_of]
      exact fin _ _ (Int.emod_nonneg _ (by omega)) (Int.emod_lt_of_pos _ h0) ((growU u).trans r4 ((growU u).same g5))
end
end Cw
/-! part CwC3 -/
set_option Elab.async false
set_option linter.all false
set_option maxRecDepth 100000
set_option maxHeartbeats 1000000
/-! _law_one, the kinds that are drawn. -/
namespace Cw
open PySem PySem.Spec PyProof.Rows L2
section
variable {P : Program} {w : World} {K : PySem.W.Frag} {mg : Str → Option Value} {base : Heap}
def preOne : List PyData → (PyData → Prop) → Prop := fun ds Pd => ∃ es : List PyData, 0 < es.length ∧ es.length ≤ 1000 ∧ ds = [.tuple es] ∧ Pd = fun d => d ∈ es
theorem sc_law_one : FnScope ["_law_urn_here", "_law_some"] ["_law_urn_here", "_law_some"] (defScope s_law_one) := ⟨rfl, rfl, rfl, by decide +kernel, rfl, by decide +kernel, by decide +kernel⟩
theorem ok_law_one (Z : Fs w K mg) : OkF P w K mg base "_law_one" ["_law_urn_here", "_law_some"] 2 (spU preOne) := by
  have sc := sc_law_one
  have O_law_pull := ok_law_pull (P := P) (base := base) Z
  refine Z.f_law_one.ok sc (spU_len fun ds Pd ⟨es, _, _, e, _⟩ => by rw [e]; rfl) (fun _ _ _ _ _ _ us hl => match us, hl with | [_, _], _ => rfl) fun f cdv A outer s H vs Q E hr h => ?_
  refine ⟨_, (pss_one (ps_ret (pe_ix ix_tup (pv 1) (pe_callO O_law_pull hr (ha := (pa_cons (pv 0) (pa_cons (pe_callB call_len rfl Z.zlen PySem.boot_len (pa_cons (pv 1) pa_nil)) pa_nil)))) (fun _ _ => rfl)))), ?_⟩
  obtain ⟨u, rest, ds, Pd, rfl, U, t, ⟨es, h0, h1, rfl, rfl⟩, q⟩ := h
  obtain ⟨tv, rfl, tt⟩ := tp1 t
  have G := growU u
  exact EvS.run G (es_retE G (eve_ix G (ev_var G tt) (eve_call U (pre := prePull) (eva_one G (ev_len G (ev_var G tt))) ⟨(es.length : Int), by omega, by omega, rfl, rfl⟩)) fun v d H1 g t p => q v d H1 g t p)
/-! _law_plain_kind -/
def preNum (m : Nat) (Pk : Kd → Prop) : List PyData → (PyData → Prop) → Prop := fun ds Pd => ds = [.int (m : Int)] ∧ Pd = fun d => ∃ k, d = encK k ∧ Pk k
theorem evt_ltI {R : Hp → Hp → Prop} (G : Grow R) {σ : L2.St} {H : Hp} {ta tb : TE} {i j : Int} (ha : EvD R ta σ H (.int i)) (hb : EvD R tb σ H (.int j)) : EvT R (tTest (tOp (rI0 fun i j => .bl (decide (i < j))) ta tb)) σ H (decide (i < j)) := evt_test (evb_intop (g := fun i j => decide (i < j)) G ha hb)
theorem evt_eqI {R : Hp → Hp → Prop} (G : Grow R) {σ : L2.St} {H : Hp} {ta tb : TE} {i j : Int} (ha : EvD R ta σ H (.int i)) (hb : EvD R tb σ H (.int j)) : EvT R (tTest (tOp (rEqD K) ta tb)) σ H (decide (i = j)) := evt_test (evb_eqI G ha hb)
theorem ev_ifD {R : Hp → Hp → Prop} (G : Grow R) {σ : L2.St} {H : Hp} {t : TT} {ta tb : TE} {b : Bool} {d e : PyData} (h : EvT R t σ H b) (h1 : EvD R ta σ H d) (h2 : EvD R tb σ H e) : EvD R (tIf t ta tb) σ H (if b = true then d else e) := by
  cases b with
  | true => exact ev_ifT G h h1
  | false => exact ev_ifF G h h2
theorem eva_left {R : Hp → Hp → Prop} (G : Grow R) {σ : L2.St} {H : Hp} {i j : Nat} (hs : σ[i]? = some (some (.int ((j + 1 : Nat) : Int)))) : EvA R (tCons (tOp (rI0 fun i j => .int (i - j)) (tVar i) (tC (.int 1))) tNil) σ H [.int ((j : Nat) : Int)] := by
  have h := eva_one G (ev_intop (g := fun i j => i - j) G (ev_var (H := H) G (.int ((j + 1 : Nat) : Int)) hs) (ev_int G (i := 1)))
  rw [show ((j + 1 : Nat) : Int) - 1 = (j : Int) from by omega] at h
  exact h
def Pkp (m : Nat) (k : Kd) : Prop := k.plain = true ∧ k.dep ≤ m + 1
/-- some number up to m -/
def preUp (m : Nat) (Pk : Nat → Kd → Prop) : List PyData → (PyData → Prop) → Prop := fun ds Pd => ∃ j, j ≤ m ∧ preNum j (Pk j) ds Pd
def preLow (m : Nat) (Pk : Nat → Kd → Prop) : List PyData → (PyData → Prop) → Prop := fun ds Pd => ∃ j, j + 1 ≤ m ∧ preNum j (Pk j) ds Pd
theorem sc_law_plain_kind : FnScope ["_law_urn_here", "_law_left", "_law_way", "_law_first"] ["_law_urn_here", "_law_left"] (defScope s_law_plain_kind) := ⟨rfl, rfl, rfl, by decide +kernel, rfl, by decide +kernel, by decide +kernel⟩
theorem ok_law_plain_kind (Z : Fs w K mg) : ∀ m, OkF P w K mg base "_law_plain_kind" ["_law_urn_here", "_law_left"] (m + 2) (spU (preUp m Pkp)) := fun m => by
  have sc := sc_law_plain_kind
  have O_law_pull := ok_law_pull (P := P) (base := base) Z
  have O_law_truth := ok_law_truth (P := P) (base := base) Z
  have O' : ∀ j, m = j + 1 → OkF P w K mg base "_law_plain_kind" ["_law_urn_here", "_law_left"] (j + 2) (spU (preUp j Pkp)) := fun j e => ok_law_plain_kind Z j
  have O_law_plain_kind : OkF P w K mg base "_law_plain_kind" ["_law_urn_here", "_law_left"] (m + 1) (spU (preLow m Pkp)) := by
    cases m with
    | zero =>
      refine Z.f_law_plain_kind.ok (k := 0) sc (fun vs H Q E ⟨_, _, _, _, _, _, _, ⟨j, e, _⟩, _⟩ => by omega) (fun _ _ _ _ _ _ us hl => match us, hl with | [_, _], _ => rfl) fun f cdv A outer s H vs Q E hr ⟨_, _, _, _, _, _, _, ⟨j, e, _⟩, _⟩ => by omega
    | succ j => exact ((O' j rfl).mono (by omega)).imp fun vs H Q E ⟨u, r, ds, Pd, e, U, t, ⟨i, ei, p⟩, q⟩ => ⟨u, r, ds, Pd, e, U, t, ⟨i, by omega, p⟩, q⟩
  refine Z.f_law_plain_kind.ok sc (spU_len fun ds Pd ⟨j, _, e, _⟩ => by rw [e]; rfl) (fun _ _ _ _ _ _ us hl => match us, hl with | [_, _], _ => rfl) fun f cdv A outer s H vs Q E hr h => ?_
  refine ⟨_, (pss_cons (ps_set (i := 2) sc.nd rfl (by first | exact Or.inl rfl | exact Or.inr rfl) (pe_callO O_law_pull hr (ha := (pa_cons (pv 0) (pa_cons pe_int pa_nil))))) (pss_cons (ps_if (PW.pt (pw_or (pt_cmpR op_lt (pv 1) pe_int (nomark _)) (pw_or1 (pt_cmpR op_lt (pv 2) pe_int (nomark _))))) (pss_one (ps_ret (pe_ifExp (pt_cmpR (op_eqD hr.units) (pv 2) pe_int (nomark _)) (pe_tupN (pa_cons pe_str pa_nil)) (pe_tupN (pa_cons pe_str pa_nil))))) pss_nil) (pss_cons (ps_if (pt_cmpR (op_eqD hr.units) (pv 2) pe_int (nomark _)) (pss_one (ps_ret (pe_callO0 O_law_truth hr))) pss_nil) (pss_cons (ps_set (i := 3) sc.nd rfl (by first | exact Or.inl rfl | exact Or.inr rfl) (pe_callO O_law_plain_kind hr (ha := (pa_cons (pv 0) (pa_cons (pe_op op_sub (pv 1) pe_int) pa_nil))))) (pss_one (ps_ret (pe_tupN (pa_cons (pe_ifExp (pt_cmpR op_lt (pv 2) pe_int (nomark _)) pe_str pe_str) (pa_cons (pv 3) (pa_cons (pe_callO O_law_plain_kind hr (ha := (pa_cons (pv 0) (pa_cons (pe_op op_sub (pv 1) pe_int) pa_nil)))) pa_nil)))))))))), ?_⟩
  obtain ⟨u, rest, ds, Pd, rfl, U, t, ⟨l, hlm, rfl, rfl⟩, q⟩ := h
  obtain ⟨tv, rfl, tt⟩ := tp1 t
  obtain rfl := tt.int_of
  have G := growU u
  refine EvS.run G (es_setE G (eve_call U (pre := prePull) (eva_one G (ev_int G)) ⟨8, by decide, by decide, rfl, rfl⟩) fun v d H1 g1 t1 ⟨r, er, r0, r8⟩ => ?_)
  subst er
  obtain rfl := t1.int_of
  have U1 := g1.2.2 U
  have fin : ∀ (v : V) (k : Kd) H', RU u H1 H' → Tp H' v (encK k) → Pkp l k → Q v H' := fun v k H' a b c => q v _ H' (G.trans g1 a) b ⟨k, rfl, c⟩
  have leaf : Q = Q → EvS (RU u) (tRet (tIf (tTest (tOp (rEqD K) (tVar 2) (tC (.int 0)))) (tTupN (tCons (tC (.str "unit")) tNil)) (tTupN (tCons (tC (.str "num")) tNil)))) { nx := fun x H' => Q V.non H', rt := Q } ((start ["_law_urn_here", "_law_left", "_law_way", "_law_first"] [.ref u, .int l]).set 2 (some (.int r))) H1 := fun _ =>
    es_ret G (ev_ifD G (evt_eqI G (ev_var G t1) (ev_int G)) (ev_tup G (eva_one G (ev_str G))) (ev_tup G (eva_one G (ev_str G)))) fun v H2 g2 t2 => by
      by_cases z : r = 0
      · rw [if_pos (decide_eq_true z)] at t2
        exact fin v .unit H2 g2 t2 ⟨rfl, Nat.le_add_left 1 l⟩
      · rw [if_neg (by rw [decide_eq_false z]; decide)] at t2
        exact fin v .num H2 g2 t2 ⟨rfl, Nat.le_add_left 1 l⟩
  by_cases hm : (l : Int) < 1
  · exact es_ifT G (evt_orT (b := true) (EvT.eq (evt_ltI G (ev_var G (.int (l : Int))) (ev_int G)) (decide_eq_true hm))) (leaf rfl)
  · by_cases h4 : r < 4
    · exact es_ifT G (evt_orF G (EvT.eq (evt_ltI G (ev_var G (.int (l : Int))) (ev_int G)) (decide_eq_false hm)) (EvT.eq (evt_ltI G (ev_var G t1) (ev_int G)) (decide_eq_true h4))) (leaf rfl)
    · refine es_ifF G (evt_orF G (EvT.eq (evt_ltI G (ev_var G (.int (l : Int))) (ev_int G)) (decide_eq_false hm)) (EvT.eq (evt_ltI G (ev_var G t1) (ev_int G)) (decide_eq_false h4))) ?_
      by_cases e4 : r = 4
      · refine es_ifT G (EvT.eq (evt_eqI G (ev_var G t1) (ev_int G)) (decide_eq_true e4)) (es_ret G (ev_call G (pre := preTruth) (eva_nil G) ⟨rfl, rfl⟩) fun v H2 g2 t2 => fin v _ H2 g2 t2 ⟨rfl, ?_⟩)
        show 2 ≤ l + 1
        omega
      · obtain ⟨j, rfl⟩ : ∃ j, l = j + 1 := ⟨l - 1, by omega⟩
        have pj : preLow m Pkp [.int ((j : Nat) : Int)] (fun d => ∃ k, d = encK k ∧ Pkp j k) := ⟨j, hlm, rfl, rfl⟩
        refine es_ifF G (EvT.eq (evt_eqI G (ev_var G t1) (ev_int G)) (decide_eq_false e4)) (es_setE G (eve_call U1 (eva_left G rfl) pj) fun v2 d2 H2 g2 t2 ⟨a, ea, pa⟩ => ?_)
        subst ea
        have U2 := g2.2.2 U1
        refine es_retE G (eve_tup G (eae_cons G (EvD.eve (ev_ifD G (evt_ltI G (ev_var G (t1.mono (G.tk g2))) (ev_int G)) (ev_str G (x := "pair")) (ev_str G (x := "either"))) (Pd := fun d => d = .str "pair" ∨ d = .str "either") (by split <;> simp)) (eae_cons G (EvD.eve (ev_var G t2) (Pd := fun d => d = encK a) rfl) (eae_cons G (eve_call U2 (eva_left G rfl) pj) (eae_nil G)))) (by rintro l ⟨_, _, rfl, _, _, _, rfl, _, _, _, rfl, _, rfl⟩; show 3 ≤ 1000; decide)) ?_
        rintro v3 d3 H3 g3 t3 ⟨l, rfl, d0, _, rfl, p0, _, _, rfl, rfl, _, _, rfl, ⟨b, rfl, pb⟩, rfl⟩
        have hd : max a.dep b.dep + 1 ≤ j + 1 + 1 := by have := pa.2; have := pb.2; omega
        have hp : (a.plain && b.plain) = true := by rw [pa.1, pb.1]; rfl
        rcases p0 with rfl | rfl
        · exact fin v3 (.pair a b) H3 (G.trans g2 g3) t3 ⟨hp, hd⟩
        · exact fin v3 (.either a b) H3 (G.trans g2 g3) t3 ⟨hp, hd⟩
/-! _law_data_kind -/
def Pkd (m : Nat) (k : Kd) : Prop := k.ok = true ∧ k.dep ≤ m + 1
theorem sc_law_data_kind : FnScope ["_law_urn_here", "_law_left", "_law_way", "_law_first"] ["_law_urn_here", "_law_left"] (defScope s_law_data_kind) := ⟨rfl, rfl, rfl, by decide +kernel, rfl, by decide +kernel, by decide +kernel⟩
theorem ok_law_data_kind (Z : Fs w K mg) : ∀ m, OkF P w K mg base "_law_data_kind" ["_law_urn_here", "_law_left"] (m + 3) (spU (preUp m Pkd)) := fun m => by
  have sc := sc_law_data_kind
  have O_law_pull := ok_law_pull (P := P) (base := base) Z
  have O_law_plain_kind := ok_law_plain_kind (P := P) (base := base) Z m
  have O' : ∀ j, m = j + 1 → OkF P w K mg base "_law_data_kind" ["_law_urn_here", "_law_left"] (j + 3) (spU (preUp j Pkd)) := fun j e => ok_law_data_kind Z j
  have O_law_data_kind : OkF P w K mg base "_law_data_kind" ["_law_urn_here", "_law_left"] (m + 2) (spU (preLow m Pkd)) := by
    cases m with
    | zero =>
      refine Z.f_law_data_kind.ok (k := 1) sc (fun vs H Q E ⟨_, _, _, _, _, _, _, ⟨j, e, _⟩, _⟩ => by omega) (fun _ _ _ _ _ _ us hl => match us, hl with | [_, _], _ => rfl) fun f cdv A outer s H vs Q E hr ⟨_, _, _, _, _, _, _, ⟨j, e, _⟩, _⟩ => by omega
    | succ j => exact ((O' j rfl).mono (by omega)).imp fun vs H Q E ⟨u, r, ds, Pd, e, U, t, ⟨i, ei, p⟩, q⟩ => ⟨u, r, ds, Pd, e, U, t, ⟨i, by omega, p⟩, q⟩
  refine Z.f_law_data_kind.ok sc (spU_len fun ds Pd ⟨j, _, e, _⟩ => by rw [e]; rfl) (fun _ _ _ _ _ _ us hl => match us, hl with | [_, _], _ => rfl) fun f cdv A outer s H vs Q E hr h => ?_
  refine ⟨_, (pss_cons (ps_set (i := 2) sc.nd rfl (by first | exact Or.inl rfl | exact Or.inr rfl) (pe_callO O_law_pull hr (ha := (pa_cons (pv 0) (pa_cons pe_int pa_nil))))) (pss_cons (ps_if (PW.pt (pw_or (pt_cmpR op_lt (pv 1) pe_int (nomark _)) (pw_or1 (pt_cmpR op_lt (pv 2) pe_int (nomark _))))) (pss_one (ps_ret (pe_callO O_law_plain_kind hr (ha := (pa_cons (pv 0) (pa_cons (pv 1) pa_nil)))))) pss_nil) (pss_cons (ps_if (pt_cmpR op_lt (pv 2) pe_int (nomark _)) (pss_one (ps_ret (pe_tupN (pa_cons pe_str (pa_cons (pe_callO O_law_plain_kind hr (ha := (pa_cons (pv 0) (pa_cons (pe_op op_sub (pv 1) pe_int) pa_nil)))) pa_nil))))) pss_nil) (pss_cons (ps_set (i := 3) sc.nd rfl (by first | exact Or.inl rfl | exact Or.inr rfl) (pe_callO O_law_data_kind hr (ha := (pa_cons (pv 0) (pa_cons (pe_op op_sub (pv 1) pe_int) pa_nil))))) (pss_one (ps_ret (pe_tupN (pa_cons (pe_ifExp (pt_cmpR (op_eqD hr.units) (pv 2) pe_int (nomark _)) pe_str pe_str) (pa_cons (pv 3) (pa_cons (pe_callO O_law_data_kind hr (ha := (pa_cons (pv 0) (pa_cons (pe_op op_sub (pv 1) pe_int) pa_nil)))) pa_nil)))))))))), ?_⟩
  obtain ⟨u, rest, ds, Pd, rfl, U, t, ⟨l, hlm, rfl, rfl⟩, q⟩ := h
  obtain ⟨tv, rfl, tt⟩ := tp1 t
  obtain rfl := tt.int_of
  have G := growU u
  refine EvS.run G (es_setE G (eve_call U (pre := prePull) (eva_one G (ev_int G)) ⟨9, by decide, by decide, rfl, rfl⟩) fun v d H1 g1 t1 ⟨r, er, r0, r9⟩ => ?_)
  subst er
  obtain rfl := t1.int_of
  have U1 := g1.2.2 U
  have fin : ∀ (v : V) (k : Kd) H', RU u H1 H' → Tp H' v (encK k) → Pkd l k → Q v H' := fun v k H' a b c => q v _ H' (G.trans g1 a) b ⟨k, rfl, c⟩
  have pl : preUp m Pkp [.int ((l : Nat) : Int)] (fun d => ∃ k, d = encK k ∧ Pkp l k) := ⟨l, hlm, rfl, rfl⟩
  have leaf : Q = Q → EvS (RU u) (tRet (tCall (spU (preUp m Pkp)) [] E0 (tCons (tVar 0) (tCons (tVar 1) tNil)))) { nx := fun x H' => Q V.non H', rt := Q } ((start ["_law_urn_here", "_law_left", "_law_way", "_law_first"] [.ref u, .int l]).set 2 (some (.int r))) H1 := fun _ =>
    es_retE G (eve_call U1 (eva_one G (ev_var G (.int (l : Int)))) pl) fun v d H2 g2 t2 ⟨k, ek, pk⟩ => by
      subst ek
      exact fin v k H2 g2 t2 ⟨Kd.ok_of_plain pk.1, pk.2⟩
  by_cases hm : (l : Int) < 1
  · exact es_ifT G (evt_orT (b := true) (EvT.eq (evt_ltI G (ev_var G (.int (l : Int))) (ev_int G)) (decide_eq_true hm))) (leaf rfl)
  · by_cases h3 : r < 3
    · exact es_ifT G (evt_orF G (EvT.eq (evt_ltI G (ev_var G (.int (l : Int))) (ev_int G)) (decide_eq_false hm)) (EvT.eq (evt_ltI G (ev_var G t1) (ev_int G)) (decide_eq_true h3))) (leaf rfl)
    · refine es_ifF G (evt_orF G (EvT.eq (evt_ltI G (ev_var G (.int (l : Int))) (ev_int G)) (decide_eq_false hm)) (EvT.eq (evt_ltI G (ev_var G t1) (ev_int G)) (decide_eq_false h3))) ?_
      obtain ⟨j, rfl⟩ : ∃ j, l = j + 1 := ⟨l - 1, by omega⟩
      by_cases h6 : r < 6
      · have pj : preUp m Pkp [.int ((j : Nat) : Int)] (fun d => ∃ k, d = encK k ∧ Pkp j k) := ⟨j, by omega, rfl, rfl⟩
        refine es_ifT G (EvT.eq (evt_ltI G (ev_var G t1) (ev_int G)) (decide_eq_true h6)) (es_retE G (eve_tup G (eae_cons G (EvD.eve (ev_str G) (Pd := fun d => d = .str "bag") rfl) (eae_cons G (eve_call U1 (eva_left G rfl) pj) (eae_nil G))) (by rintro l ⟨_, _, rfl, _, _, _, rfl, _, rfl⟩; show 2 ≤ 1000; decide)) ?_)
        rintro v3 d3 H3 g3 t3 ⟨l, rfl, d0, _, rfl, rfl, _, _, rfl, ⟨b, rfl, pb⟩, rfl⟩
        exact fin v3 (.bag b) H3 g3 t3 ⟨pb.1, by have := pb.2; show b.dep + 1 ≤ j + 1 + 1; omega⟩
      · have pj : preLow m Pkd [.int ((j : Nat) : Int)] (fun d => ∃ k, d = encK k ∧ Pkd j k) := ⟨j, hlm, rfl, rfl⟩
        refine es_ifF G (EvT.eq (evt_ltI G (ev_var G t1) (ev_int G)) (decide_eq_false h6)) (es_setE G (eve_call U1 (eva_left G rfl) pj) fun v2 d2 H2 g2 t2 ⟨a, ea, pa⟩ => ?_)
        subst ea
        have U2 := g2.2.2 U1
        refine es_retE G (eve_tup G (eae_cons G (EvD.eve (ev_ifD G (evt_eqI G (ev_var G (t1.mono (G.tk g2))) (ev_int G)) (ev_str G (x := "pair")) (ev_str G (x := "either"))) (Pd := fun d => d = .str "pair" ∨ d = .str "either") (by split <;> simp)) (eae_cons G (EvD.eve (ev_var G t2) (Pd := fun d => d = encK a) rfl) (eae_cons G (eve_call U2 (eva_left G rfl) pj) (eae_nil G)))) (by rintro l ⟨_, _, rfl, _, _, _, rfl, _, _, _, rfl, _, rfl⟩; show 3 ≤ 1000; decide)) ?_
        rintro v3 d3 H3 g3 t3 ⟨l, rfl, d0, _, rfl, p0, _, _, rfl, rfl, _, _, rfl, ⟨b, rfl, pb⟩, rfl⟩
        have hd : max a.dep b.dep + 1 ≤ j + 1 + 1 := by have := pa.2; have := pb.2; omega
        have hp : (a.ok && b.ok) = true := by rw [pa.1, pb.1]; rfl
        rcases p0 with rfl | rfl
        · exact fin v3 (.pair a b) H3 (G.trans g2 g3) t3 ⟨hp, hd⟩
        · exact fin v3 (.either a b) H3 (G.trans g2 g3) t3 ⟨hp, hd⟩
end
end Cw
/-! part CwC4 -/
set_option Elab.async false
set_option linter.all false
set_option maxRecDepth 100000
set_option maxHeartbeats 1000000
/-! Values that are drawn. -/
namespace Cw
open PySem PySem.Spec PyProof.Rows L2
/-- a value as the law draws it -/
structure DV (k : Kd) (v : Vl k) : Prop where
  ok : Okv k v
  sm : Small 500000000000 3 k v
section
variable {P : Program} {w : World} {K : PySem.W.Frag} {mg : Str → Option Value} {base : Heap}
theorem eve_callE {σ : L2.St} {H : Hp} {a : Addr} {i : Nat} {pre : List PyData → (PyData → Prop) → Prop} {ta : TA} {Ps : List PyData → Prop} {Pd : PyData → Prop} (U : Urn H a) (ha : EvAE (RU a) ta σ H Ps) (hp : ∀ ds, Ps ds → ∃ Pe, pre ds Pe ∧ ∀ d, Pe d → Pd d) (hs : σ[i]? = some (some (.ref a)) := by rfl) :
    EvE (RU a) (tCall (spU pre) [] E0 (tCons (tVar i) ta)) σ H Pd := fun H1 g Q q =>
  ⟨.ref a, hs, ha H1 g _ fun vs ds H2 g2 t2 p => by
    obtain ⟨Pe, p1, p2⟩ := hp ds p
    exact ⟨a, vs, ds, Pe, by rw [List.append_nil], ((growU a).trans g g2).2.2 U, t2, p1, fun v d H3 g3 t p => q v d H3 ((growU a).trans g2 g3) t (p2 d p)⟩⟩
theorem eve_sub {R : Hp → Hp → Prop} (G : Grow R) {σ : L2.St} {H : Hp} {ta tb : TE} {Pi : Int → Prop} {j : Int} (ha : EvE R ta σ H (fun d => ∃ i, d = .int i ∧ Pi i)) (hb : EvD R tb σ H (.int j)) : EvE R (tOp (rI0 fun i j => .int (i - j)) ta tb) σ H (fun d => ∃ i, d = .int (i - j) ∧ Pi i) := fun H1 g Q q =>
  ha H1 g _ fun v d H2 g2 t2 ⟨i, e, p⟩ => hb H2 (G.trans g g2) _ fun w H3 g3 t3 => by
    subst e
    exact ⟨i, j, t2.int_of, t3.int_of, q _ _ H3 (G.trans g2 g3) (.int (i - j)) ⟨i, rfl, p⟩⟩
theorem ev_pow {R : Hp → Hp → Prop} (G : Grow R) {σ : L2.St} {H : Hp} {ta tb : TE} {i j : Int} (hc : CPow i j) (ha : EvD R ta σ H (.int i)) (hb : EvD R tb σ H (.int j)) : EvD R (tOp (rI CPow fun i j => .int (i ^ j.toNat)) ta tb) σ H (.int (i ^ j.toNat)) := ev_intopC (g := fun i j => i ^ j.toNat) G ha hb hc
def preWholeU : List PyData → (PyData → Prop) → Prop := fun ds Pd => ds = [] ∧ Pd = fun d => ∃ i : Int, d = .int i ∧ i.natAbs ≤ 500000000000
theorem cpow1 : CPow 10 12 := ⟨by decide, by decide, by decide⟩
theorem cpow2 : CPow 10 11 := ⟨by decide, by decide, by decide⟩
theorem sc_law_whole : FnScope ["_law_urn_here"] ["_law_urn_here"] (defScope s_law_whole) := ⟨rfl, rfl, rfl, by decide +kernel, rfl, by decide +kernel, by decide +kernel⟩
theorem ok_law_whole (Z : Fs w K mg) : OkF P w K mg base "_law_whole" ["_law_urn_here"] 3 (spU preWholeU) := by
  have sc := sc_law_whole
  have O_law_pull := ok_law_pull (P := P) (base := base) Z
  have O_law_one := ok_law_one (P := P) (base := base) Z
  refine Z.f_law_whole.ok sc (spU_len fun ds Pd ⟨e, _⟩ => by rw [e]; rfl) (fun _ _ _ _ _ _ us hl => match us, hl with | [_], _ => rfl) fun f cdv A outer s H vs Q E hr h => ?_
  refine ⟨_, (pss_one (ps_ret (pe_callO O_law_one hr (ha := (pa_cons (pv 0) (pa_cons (pe_tupN (pa_cons pe_int (pa_cons pe_int (pa_cons pe_int (pa_cons pe_int (pa_cons (pe_un un_neg pe_int) (pa_cons (pe_un un_neg pe_int) (pa_cons pe_int (pa_cons (pe_op op_sub (pe_callO O_law_pull hr (ha := (pa_cons (pv 0) (pa_cons pe_int pa_nil)))) pe_int) (pa_cons (pe_op op_sub (pe_callO O_law_pull hr (ha := (pa_cons (pv 0) (pa_cons (pe_op op_pow pe_int pe_int) pa_nil)))) (pe_op op_mul pe_int (pe_op op_pow pe_int pe_int))) pa_nil)))))))))) pa_nil)))))), ?_⟩
  obtain ⟨u, rest, ds, Pd, rfl, U, t, ⟨rfl, rfl⟩, q⟩ := h
  cases t
  have G := growU u
  have c : ∀ {te : TE} {i : Int}, EvD (RU u) te (start ["_law_urn_here"] [.ref u]) H (.int i) → EvE (RU u) te (start ["_law_urn_here"] [.ref u]) H (fun d => d = .int i) := fun h => EvD.eve h rfl
  have p1 : EvD (RU u) (tOp (rI CPow fun i j => .int (i ^ j.toNat)) (tC (.int 10)) (tC (.int 12))) (start ["_law_urn_here"] [.ref u]) H (.int 1000000000000) := ev_pow G cpow1 (ev_int G) (ev_int G)
  have p2 : EvD (RU u) (tOp (rI CMul fun i j => .int (i * j)) (tC (.int 5)) (tOp (rI CPow fun i j => .int (i ^ j.toNat)) (tC (.int 10)) (tC (.int 11)))) (start ["_law_urn_here"] [.ref u]) H (.int 500000000000) :=
    ev_intopC (g := fun i j => i * j) G (ev_int G) (ev_pow G cpow2 (ev_int G) (ev_int G)) (.inl ⟨by decide, by decide⟩)
  refine EvS.run G (es_retE G (eve_callE (Pd := fun d => ∃ i : Int, d = .int i ∧ i.natAbs ≤ 500000000000) U (eae_cons G (eve_tup G (eae_cons G (c (ev_int G)) (eae_cons G (c (ev_int G)) (eae_cons G (c (ev_int G)) (eae_cons G (c (ev_int G)) (eae_cons G (c (ev_un G (ev_int G))) (eae_cons G (c (ev_un G (ev_int G))) (eae_cons G (c (ev_int G))
    (eae_cons G (eve_sub G (Pi := fun i => 0 ≤ i ∧ i < 9) (eve_call U (pre := prePull) (eva_one G (ev_int G)) ⟨9, by decide, by decide, rfl, rfl⟩) (ev_int G)) (eae_cons G (eve_sub G (Pi := fun i => 0 ≤ i ∧ i < 1000000000000) (eve_call U (pre := prePull) (eva_one G p1) ⟨1000000000000, by decide, by decide, rfl, rfl⟩) p2) (eae_nil G)))))))))) ?_) (eae_nil G)) ?_) fun v d H1 g t p => q v d H1 g t p)
  · rintro l ⟨_, _, rfl, _, _, _, rfl, _, _, _, rfl, _, _, _, rfl, _, _, _, rfl, _, _, _, rfl, _, _, _, rfl, _, _, _, rfl, _, _, _, rfl, _, rfl⟩
    show 9 ≤ 1000
    decide
  · rintro ds ⟨_, _, rfl, ⟨l, rfl, ⟨_, _, rfl, rfl, _, _, rfl, rfl, _, _, rfl, rfl, _, _, rfl, rfl, _, _, rfl, rfl, _, _, rfl, rfl, _, _, rfl, rfl, _, _, rfl, ⟨i, rfl, hi⟩, _, _, rfl, ⟨j, rfl, hj⟩, rfl⟩⟩, rfl⟩
    refine ⟨_, ⟨_, ?_, ?_, rfl, rfl⟩, fun d hd => ?_⟩
    · exact Nat.succ_pos 8
    · show 9 ≤ 1000
      decide
    simp only [List.mem_cons, List.not_mem_nil, or_false] at hd
    rcases hd with rfl | rfl | rfl | rfl | rfl | rfl | rfl | rfl | rfl <;> exact ⟨_, rfl, by omega⟩
/-! _law_value -/
theorem RU.low {u p : Addr} {H H1 : Hp} {o : HO} (r : RU u H H1) (hp : H p = none) (hpu : p ≠ u) : RU u H (upd H1 p o) :=
  ⟨fun b x ne e => by rw [upd_ne (ne_of_none e hp)]; exact r.1 b x ne e, fun b x y e => by rw [upd_ne (ne_of_none e hp)]; exact r.2.1 b x y e, fun U => by
    obtain ⟨n, s, c, e, h⟩ := r.2.2 U
    exact ⟨n, s, c, by rw [upd_ne (Ne.symm hpu)]; exact e, h⟩⟩
def preValU (n : Nat) : List PyData → (PyData → Prop) → Prop := fun ds Pd => ∃ k : Kd, k.ok = true ∧ k.dep ≤ n ∧ k.dep ≤ 8 ∧ ds = [encK k] ∧ Pd = fun d => ∃ v, d = enc k v ∧ DV k v
theorem urn_ne {H : Hp} {u p : Addr} (U : Urn H u) (h : H p = none) : p ≠ u := fun e => by
  obtain ⟨n, s, c, q, _⟩ := U
  rw [← e, h] at q
  cases q
theorem norm_dv {a : Kd} (pl : a.plain = true) {ps : List (Vl a × Int)} (hl : ps.length ≤ 3) (hw : wt ps ≤ 12) (hd : ∀ p ∈ ps, DV a p.1) : DV (.bag a) (norm (lt a) ps) :=
  ⟨canon_norm (ltO pl) ps, ⟨Nat.le_trans (norm_len ps) hl, Nat.le_trans (Nat.le_trans (wt_norm ps) hw) (by decide), fun p hp => by
    obtain ⟨q, hq, e⟩ := norm_mem hp
    rw [← e]
    exact (hd q hq).sm⟩⟩
theorem wt_snoc {a : Kd} {ps : List (Vl a × Int)} {p : Vl a × Int} : wt (ps ++ [p]) = wt ps + p.2.natAbs := by
  rw [wt_append, wt_cons]
  rfl
theorem tp_low {H : Hp} {p : Addr} {us xs : List V} (e : H p = some (.lst us)) : TK H (upd H p (.lst xs)) := fun b o u q => by
  rw [upd_ne fun z => by rw [z, e] at q; cases q]
  exact q
def sixL : List PyData := [.int 1, .int 2, .int (-1), .int 1, .int 4, .int (-3)]
theorem sixP : preOne [.tuple sixL] (fun d => d ∈ sixL) := ⟨sixL, Nat.succ_pos 5, (show 6 ≤ 1000 by decide), rfl, rfl⟩
theorem sixM {d : PyData} (h : d ∈ sixL) : ∃ m : Int, d = .int m ∧ m.natAbs ≤ 4 := by
  unfold sixL at h
  simp only [List.mem_cons, List.not_mem_nil, or_false] at h
  rcases h with rfl | rfl | rfl | rfl | rfl | rfl
  · exact ⟨1, rfl, by decide⟩
  · exact ⟨2, rfl, by decide⟩
  · exact ⟨-1, rfl, by decide⟩
  · exact ⟨1, rfl, by decide⟩
  · exact ⟨4, rfl, by decide⟩
  · exact ⟨-3, rfl, by decide⟩
theorem sc_law_value : FnScope ["_law_urn_here", "_law_kind", "_law_first", "_law_side", "_law_pairs", "_law_turn"] ["_law_urn_here", "_law_kind"] (defScope s_law_value) := ⟨rfl, rfl, rfl, by decide +kernel, rfl, by decide +kernel, by decide +kernel⟩
theorem ok_law_value (Z : Fs w K mg) : ∀ n, OkF P w K mg base "_law_value" ["_law_urn_here", "_law_kind"] (n + 4) (spU (preValU n))
  | 0 => Z.f_law_value.ok (k := 3) sc_law_value (spU_len fun ds Pd ⟨k, _, _, _, e, _⟩ => by rw [e]; rfl) (fun _ _ _ _ _ _ us hl => match us, hl with | [_, _], _ => rfl) fun f cdv A outer s H vs Q E hr ⟨_, _, _, _, _, _, _, ⟨k, _, hd, _⟩, _⟩ => by
    have := k.dep_pos
    exfalso
    omega
  | n + 1 => by
    have sc := sc_law_value
    have O_law_pull := ok_law_pull (P := P) (base := base) Z
    have O_law_one := ok_law_one (P := P) (base := base) Z
    have O_law_whole := ok_law_whole (P := P) (base := base) Z
    have O_law_bag := ok_law_bag (P := P) (base := base) Z
    have O_law_value := ok_law_value Z n
    refine Z.f_law_value.ok (k := n + 4) sc (spU_len fun ds Pd ⟨k, _, _, _, e, _⟩ => by rw [e]; rfl) (fun _ _ _ _ _ _ us hl => match us, hl with | [_, _], _ => rfl) fun f cdv A outer s H vs Q E hr h => ?_
    refine ⟨_, (pss_cons (ps_if (pt_cmpR (op_eqD hr.units) (pe_ix ix_tup (pv 1) pe_int (fun _ _ => rfl)) pe_str (nomark _)) (pss_one (ps_ret (pe_tupN pa_nil))) pss_nil) (pss_cons (ps_if (pt_cmpR (op_eqD hr.units) (pe_ix ix_tup (pv 1) pe_int (fun _ _ => rfl)) pe_str (nomark _)) (pss_one (ps_ret (pe_callO O_law_whole hr (ha := (pa_cons (pv 0) pa_nil))))) pss_nil) (pss_cons (ps_if (pt_cmpR (op_eqD hr.units) (pe_ix ix_tup (pv 1) pe_int (fun _ _ => rfl)) pe_str (nomark _)) (pss_cons (ps_set (i := 2) sc.nd rfl (by first | exact Or.inl rfl | exact Or.inr rfl) (pe_callO O_law_value hr (ha := (pa_cons (pv 0) (pa_cons (pe_ix ix_tup (pv 1) pe_int (fun _ _ => rfl)) pa_nil))))) (pss_one (ps_ret (pe_tupN (pa_cons pe_str (pa_cons (pv 2) (pa_cons (pe_callO O_law_value hr (ha := (pa_cons (pv 0) (pa_cons (pe_ix ix_tup (pv 1) pe_int (fun _ _ => rfl)) pa_nil)))) pa_nil))))))) pss_nil) (pss_cons (ps_if (pt_cmpR (op_eqD hr.units) (pe_ix ix_tup (pv 1) pe_int (fun _ _ => rfl)) pe_str (nomark _)) (pss_cons (ps_set (i := 3) sc.nd rfl (by first | exact Or.inl rfl | exact Or.inr rfl) (pe_callO O_law_pull hr (ha := (pa_cons (pv 0) (pa_cons pe_int pa_nil))))) (pss_one (ps_ret (pe_tupN (pa_cons (pe_ix ix_tup (pe_tupN (pa_cons pe_str (pa_cons pe_str pa_nil))) (pv 3) (fun _ _ => rfl)) (pa_cons (pe_callO O_law_value hr (ha := (pa_cons (pv 0) (pa_cons (pe_ix ix_tup (pv 1) (pe_op op_add pe_int (pv 3)) (fun _ _ => rfl)) pa_nil)))) pa_nil)))))) pss_nil) (pss_cons (ps_set (i := 4) sc.nd rfl (by first | exact Or.inl rfl | exact Or.inr rfl) (pe_lst pa_nil)) (pss_cons (ps_for PassesOwn.never rfl (pi_range1 rfl Z.zrange (pa_cons (pe_callO O_law_pull hr (ha := (pa_cons (pv 0) (pa_cons pe_int pa_nil)))) pa_nil)) (pg_name sc.nd (i := 5) rfl (by first | exact Or.inl rfl | exact Or.inr rfl)) (pss_one (ps_expr (pe_bm PySem.F.plainAttrs_list PySem.F.slot_list_append PySem.F.type_list_append mt_append (pv 4) (pa_cons (pe_tupN (pa_cons (pe_callO O_law_value hr (ha := (pa_cons (pv 0) (pa_cons (pe_ix ix_tup (pv 1) pe_int (fun _ _ => rfl)) pa_nil)))) (pa_cons (pe_callO O_law_one hr (ha := (pa_cons (pv 0) (pa_cons (pe_tupN (pa_cons pe_int (pa_cons pe_int (pa_cons (pe_un un_neg pe_int) (pa_cons pe_int (pa_cons pe_int (pa_cons (pe_un un_neg pe_int) pa_nil))))))) pa_nil)))) pa_nil))) pa_nil))))) (pss_one (ps_ret (pe_callO O_law_bag hr (ha := (pa_cons (pv 4) pa_nil))))))))))), ?_⟩
    obtain ⟨u, rest, ds, Pd, rfl, U, t, ⟨k, ok, hd, h8, rfl, rfl⟩, q⟩ := h
    obtain ⟨v, rfl, tv⟩ := tp1 t
    have G := growU u
    have fin : ∀ (v : V) (x : Vl k) H', RU u H H' → Tp H' v (enc k x) → DV k x → Q v H' := fun v x H' a b c => q v _ H' a b ⟨x, rfl, c⟩
    cases k with
    | unit => exact EvS.run G (es_ifT G (EvT.eq (evt_k0 G tv "unit") tq_unit_unit) (es_ret G (ev_tup G (eva_nil G)) fun v H1 g t => fin v () H1 g t ⟨trivial, trivial⟩))
    | num =>
      refine EvS.run G (es_ifF G (EvT.eq (evt_k0 G tv "unit") tq_num_unit) (es_ifT G (EvT.eq (evt_k0 G tv "num") tq_num_num) (es_retE G (eve_call U (pre := preWholeU) (eva_nil G) ⟨rfl, rfl⟩) fun v d H1 g t ⟨i, ei, hi⟩ => ?_)))
      subst ei
      exact fin v (show Vl .num from i) H1 g t ⟨trivial, hi⟩
    | pair a b =>
      have hdep : (Kd.pair a b).dep = max a.dep b.dep + 1 := rfl
      obtain ⟨o1, o2⟩ := Bool.and_eq_true_iff.mp (show (a.ok && b.ok) = true from ok)
      refine EvS.run G (es_ifF G (EvT.eq (evt_k0 G tv "unit") tq_pair_unit) (es_ifF G (EvT.eq (evt_k0 G tv "num") tq_pair_num) (es_ifT G (EvT.eq (evt_k0 G tv "pair") tq_pair_pair) (es_setE G (eve_call U (pre := preValU n) (eva_one G (ev_ix1 G (ds := [.str "pair", encK a, encK b]) (ev_var G tv))) ⟨a, o1, by omega, by omega, rfl, rfl⟩) fun v1 d1 H1 g1 t1 ⟨x, ex, dx⟩ => ?_))))
      subst ex
      refine es_retE G (eve_tup G (eae_cons G (EvD.eve (ev_str G) (Pd := fun d => d = .str "pair") rfl) (eae_cons G (EvD.eve (ev_var G t1) (Pd := fun d => d = enc a x) rfl) (eae_cons G (eve_call (g1.2.2 U) (pre := preValU n) (eva_one G (ev_ix2 G (ds := [.str "pair", encK a, encK b]) (ev_var G (tv.mono (G.tk g1))))) ⟨b, o2, by omega, by omega, rfl, rfl⟩) (eae_nil G)))) (by rintro l ⟨_, _, rfl, _, _, _, rfl, _, _, _, rfl, _, rfl⟩; show 3 ≤ 1000; decide)) ?_
      rintro v3 d3 H3 g3 t3 ⟨l, rfl, _, _, rfl, rfl, _, _, rfl, rfl, _, _, rfl, ⟨y, rfl, dy⟩, rfl⟩
      exact fin v3 ((x, y) : Vl a × Vl b) H3 (G.trans g1 g3) t3 ⟨⟨dx.ok, dy.ok⟩, ⟨dx.sm, dy.sm⟩⟩
    | either a b =>
      have hdep : (Kd.either a b).dep = max a.dep b.dep + 1 := rfl
      obtain ⟨o1, o2⟩ := Bool.and_eq_true_iff.mp (show (a.ok && b.ok) = true from ok)
      refine EvS.run G (es_ifF G (EvT.eq (evt_k0 G tv "unit") tq_either_unit) (es_ifF G (EvT.eq (evt_k0 G tv "num") tq_either_num) (es_ifF G (EvT.eq (evt_k0 G tv "pair") tq_either_pair) (es_ifT G (EvT.eq (evt_k0 G tv "either") tq_either_either) (es_setE G (eve_call U (pre := prePull) (eva_one G (ev_int G)) ⟨2, by decide, by decide, rfl, rfl⟩) fun v1 d1 H1 g1 t1 ⟨r, er, r0, r2⟩ => ?_)))))
      subst er
      have U1 := g1.2.2 U
      have tv1 := tv.mono (G.tk g1)
      obtain rfl | rfl : r = 0 ∨ r = 1 := by omega
      · refine es_retE G (eve_tup G (eae_cons G (EvD.eve (ev_ixV G (i := 0) (ds := [.str "left", .str "right"]) (ev_tup G (eva_two G (ev_str G) (ev_str G))) (ev_var G t1) rfl) (Pd := fun d => d = .str "left") rfl) (eae_cons G (eve_call U1 (pre := preValU n) (eva_one G (ev_ixV G (i := 1) (ds := [.str "either", encK a, encK b]) (ev_var G tv1) (EvD.to (ev_intop (g := fun i j => i + j) G (ev_int G) (ev_var G t1)) rfl) rfl)) ⟨a, o1, by omega, by omega, rfl, rfl⟩) (eae_nil G))) (by rintro l ⟨_, _, rfl, _, _, _, rfl, _, rfl⟩; show 2 ≤ 1000; decide)) ?_
        rintro v3 d3 H3 g3 t3 ⟨l, rfl, _, _, rfl, rfl, _, _, rfl, ⟨y, rfl, dy⟩, rfl⟩
        exact fin v3 (.inl y : Sum (Vl a) (Vl b)) H3 (G.trans g1 g3) t3 ⟨dy.ok, dy.sm⟩
      · refine es_retE G (eve_tup G (eae_cons G (EvD.eve (ev_ixV G (i := 1) (ds := [.str "left", .str "right"]) (ev_tup G (eva_two G (ev_str G) (ev_str G))) (ev_var G t1) rfl) (Pd := fun d => d = .str "right") rfl) (eae_cons G (eve_call U1 (pre := preValU n) (eva_one G (ev_ixV G (i := 2) (ds := [.str "either", encK a, encK b]) (ev_var G tv1) (EvD.to (ev_intop (g := fun i j => i + j) G (ev_int G) (ev_var G t1)) rfl) rfl)) ⟨b, o2, by omega, by omega, rfl, rfl⟩) (eae_nil G))) (by rintro l ⟨_, _, rfl, _, _, _, rfl, _, rfl⟩; show 2 ≤ 1000; decide)) ?_
        rintro v3 d3 H3 g3 t3 ⟨l, rfl, _, _, rfl, rfl, _, _, rfl, ⟨y, rfl, dy⟩, rfl⟩
        exact fin v3 (.inr y : Sum (Vl a) (Vl b)) H3 (G.trans g1 g3) t3 ⟨dy.ok, dy.sm⟩
    | bag a =>
      have hdep : (Kd.bag a).dep = a.dep + 1 := rfl
      have pl : a.plain = true := ok
      refine EvS.run G (es_ifF G (EvT.eq (evt_k0 G tv "unit") tq_bag_unit) (es_ifF G (EvT.eq (evt_k0 G tv "num") tq_bag_num) (es_ifF G (EvT.eq (evt_k0 G tv "pair") tq_bag_pair) (es_ifF G (EvT.eq (evt_k0 G tv "either") tq_bag_either) fun H1 g1 => ?_))))
      refine ⟨Nat.zero_le _, fun p hp => ?_⟩
      have U1 := g1.2.2 U
      have pu := urn_ne U1 hp
      have hp0 : H p = none := by
        by_cases e : p = u
        · exact absurd e pu
        · cases e2 : H p with
          | none => rfl
          | some o => rw [g1.1 p o e e2] at hp; cases hp
      have g2 : RU u H (upd H1 p (.lst [])) := g1.low hp0 pu
      refine (eve_call (g2.2.2 U) (i := 0) (pre := prePull) (eva_one G (ev_int G)) ⟨4, by decide, by decide, rfl, rfl⟩ rfl) _ (G.refl _) _ fun v2 d2 H2 g3 t2 ⟨r, er, r0, r4⟩ => ?_
      subst er
      have g02 := G.trans g2 g3
      refine ⟨r, by rw [t2.int_of], by omega, by omega, for_range (fun i σ' Hc => σ'.length = 6 ∧ σ'[0]? = some (some (.ref u)) ∧ σ'[1]? = some (some v) ∧ σ'[4]? = some (some (.ref p)) ∧ RU u H Hc ∧ ∃ (us : List V) (ps : List (Vl a × Int)), Hc p = some (.lst us) ∧ TpAll Hc us (ps.map (encP a)) ∧ ps.length ≤ i ∧ wt ps ≤ 4 * i ∧ ∀ z ∈ ps, DV a z.1)
        ⟨rfl, rfl, rfl, rfl, g02, [], [], g3.1 p _ pu upd_same, .nil, Nat.le_refl _, Nat.le_refl _, fun _ h => nomatch h⟩ (fun i σ' Hc hi hpv => ?_) fun σ' Hc hpv => ?_⟩
      · obtain ⟨hl, s0, s1, s4, gc, us, ps, ep, tp, hlen, hwt, hdv⟩ := hpv
        have Uc := gc.2.2 U
        have tvc := tv.mono (G.tk gc)
        have f0 : (σ'.set 5 (some (V.int (0 + (i : Int)))))[0]? = some (some (.ref u)) := by rw [List.getElem?_set_ne (by decide)]; exact s0
        have f1 : (σ'.set 5 (some (V.int (0 + (i : Int)))))[1]? = some (some v) := by rw [List.getElem?_set_ne (by decide)]; exact s1
        have f4 : (σ'.set 5 (some (V.int (0 + (i : Int)))))[4]? = some (some (.ref p)) := by rw [List.getElem?_set_ne (by decide)]; exact s4
        refine ⟨.ref p, f4, .inl ⟨rfl, _, .inl (.inl ep)⟩, ?_⟩
        refine eve_tup G (eae_cons G (eve_call Uc (pre := preValU n) (eva_one G (ev_ix1 (K := K) G (ds := [.str "bag", encK a]) (ev_var G tvc f1))) ⟨a, Kd.ok_of_plain pl, by omega, by omega, rfl, rfl⟩ f0) (eae_cons G (eve_call Uc (pre := preOne) (eva_one G (ev_tup G (eva_cons G (ev_int G) (eva_cons G (ev_int G) (eva_cons G (ev_un G (ev_int G)) (eva_cons G (ev_int G) (eva_cons G (ev_int G) (eva_one G (ev_un G (ev_int G))))))))  (show 6 ≤ 1000 by decide))) sixP f0) (eae_nil G))) (by rintro l ⟨_, _, rfl, _, _, _, rfl, _, rfl⟩; show 2 ≤ 1000; decide) Hc (G.refl Hc) _ ?_
        rintro v3 d3 H3 g5 t3 ⟨l, rfl, _, _, rfl, ⟨x, rfl, dx⟩, _, _, rfl, hm, rfl⟩
        obtain ⟨m, rfl, hm4⟩ := sixM hm
        have e3 : H3 p = some (.lst us) := g5.1 p _ pu ep
        have lu : us.length = ps.length := by rw [tp.len, List.length_map]
        have tk3 := tp_low (xs := us ++ [v3]) e3
        refine ⟨p, us, v3, rfl, rfl, e3, by rw [sizeLine_eq]; omega, by rw [List.length_set]; exact hl, f0, f1, f4, (G.trans gc g5).low hp0 pu, us ++ [v3], ps ++ [(x, m)], upd_same, ?_, by rw [List.length_append]; show _ + 1 ≤ _; omega, by rw [wt_snoc]; show _ + m.natAbs ≤ _; omega, fun z hz => ?_⟩
        · rw [List.map_append]
          exact ((tp.mono (G.tk g5)).mono tk3).append (.cons (t3.mono tk3) .nil)
        · rcases List.mem_append.mp hz with hz | hz
          · exact hdv z hz
          · rw [List.mem_singleton.mp hz]
            exact dx
      · obtain ⟨hl, s0, s1, s4, gc, us, ps, ep, tp, hlen, hwt, hdv⟩ := hpv
        have hr4 : r.toNat ≤ 3 := by omega
        refine ⟨.ref p, s4, p, a, us, ps, rfl, pl, by omega, ep, tp, by omega, fun v' H' s' t' => fin v' _ H' (G.trans gc (G.same s')) t' (norm_dv pl (by omega) (by omega) hdv)⟩
end
end Cw
/-! part CwC5 -/
set_option Elab.async false
set_option linter.all false
set_option maxRecDepth 100000
set_option maxHeartbeats 1000000
/-! Changes that are drawn. -/
namespace Cw
open PySem PySem.Spec PyProof.Rows L2
/-- a change as the law makes one -/
structure DC (m l : Nat) (k : Kd) (c : Vl k.D) : Prop where
  ok : Okv k.D c
  sm : Small m l k.D c
theorem DV.gd {k : Kd} {v : Vl k} (h : DV k v) : Gd k v := ⟨h.ok, small_mono (by decide) (by decide) k v h.sm⟩
section
variable {P : Program} {w : World} {K : PySem.W.Frag} {mg : Str → Option Value} {base : Heap}
theorem ev_sideLG {R : Hp → Hp → Prop} (G : Grow R) {σ : L2.St} {H : Hp} {i j : Nat} {v u : V} {a b : Kd} {d : PyData} (tk : Tp H v (encK (.either a b))) (tu : Tp H u (.tuple [.str "left", d])) (h1 : σ[i]? = some (some v) := by rfl) (h2 : σ[j]? = some (some u) := by rfl) :
    EvD R (tOp (rIxT K) (tVar i) (tIf (tTest (tOp (rEqD K) (tOp (rIxT K) (tVar j) (tC (.int 0))) (tC (.str "left")))) (tC (.int 1)) (tC (.int 2)))) σ H (encK a) :=
  ev_ixV G (i := 1) (ds := [.str "either", encK a, encK b]) (ev_var G tk h1) (ev_ifT G (evt_eqS G (ev_ix0 G (ev_var G tu h2)) (ev_str G) ok_left ok_left tq_left_left) (ev_int G)) rfl
theorem ev_sideRG {R : Hp → Hp → Prop} (G : Grow R) {σ : L2.St} {H : Hp} {i j : Nat} {v u : V} {a b : Kd} {d : PyData} (tk : Tp H v (encK (.either a b))) (tu : Tp H u (.tuple [.str "right", d])) (h1 : σ[i]? = some (some v) := by rfl) (h2 : σ[j]? = some (some u) := by rfl) :
    EvD R (tOp (rIxT K) (tVar i) (tIf (tTest (tOp (rEqD K) (tOp (rIxT K) (tVar j) (tC (.int 0))) (tC (.str "left")))) (tC (.int 1)) (tC (.int 2)))) σ H (encK b) :=
  ev_ixV G (i := 2) (ds := [.str "either", encK a, encK b]) (ev_var G tk h1) (ev_ifF G (evt_eqS G (ev_ix0 G (ev_var G tu h2)) (ev_str G) ok_right ok_left tq_right_left) (ev_int G)) rfl
/-- a test of a number that is drawn -/
theorem es_ifE {R : Hp → Hp → Prop} (G : Grow R) {σ : L2.St} {H : Hp} {ta tb : TE} {Pi : Int → Prop} {j : Int} {D : Ends} {ts tz : TS} (ha : EvE R ta σ H (fun d => ∃ i, d = .int i ∧ Pi i)) (hb : EvD R tb σ H (.int j)) (k1 : ∀ H1, R H H1 → EvS R ts { D with nx := tz D } σ H1) (k2 : ∀ H1, R H H1 → EvS R tz D σ H1) :
    EvS R (tSeq (tIfS (tTest (tOp (rEqD K) ta tb)) ts tNext) tz) D σ H := fun H1 g => by
  refine ha H1 g _ fun v d H2 g2 t2 ⟨i, e, p⟩ => hb H2 (G.trans g g2) _ fun w' H3 g3 t3 => ?_
  subst e
  refine ⟨.int i, .int j, (t2.mono (G.tk g3)).dp, t3.dp, shp_int i, shp_int j, _, rfl, ?_⟩
  have g03 := G.trans (G.trans g g2) g3
  cases q : PyData.eqv (.int i) (.int j) with
  | true => exact iteT (k1 H3 g03 H3 (G.refl H3))
  | false => exact iteF (k2 H3 g03 H3 (G.refl H3))
theorem eve_ifE {R : Hp → Hp → Prop} (G : Grow R) {σ : L2.St} {H : Hp} {ta tb tc td : TE} {Pi : Int → Prop} {Pd : PyData → Prop} {j : Int} (ha : EvE R ta σ H (fun d => ∃ i, d = .int i ∧ Pi i)) (hb : EvD R tb σ H (.int j)) (k1 : EvE R tc σ H Pd) (k2 : EvE R td σ H Pd) : EvE R (tIf (tTest (tOp (rEqD K) ta tb)) tc td) σ H Pd := fun H1 g Q q => by
  refine ha H1 g _ fun v d H2 g2 t2 ⟨i, e, p⟩ => hb H2 (G.trans g g2) _ fun w' H3 g3 t3 => ?_
  subst e
  refine ⟨.int i, .int j, (t2.mono (G.tk g3)).dp, t3.dp, shp_int i, shp_int j, _, rfl, ?_⟩
  have g03 := G.trans (G.trans g g2) g3
  cases q' : PyData.eqv (.int i) (.int j) with
  | true => exact iteT (k1 H3 g03 Q fun v d H4 g4 t4 p4 => q v d H4 (G.trans (G.trans g2 g3) g4) t4 p4)
  | false => exact iteF (k2 H3 g03 Q fun v d H4 g4 t4 p4 => q v d H4 (G.trans (G.trans g2 g3) g4) t4 p4)

/-! _law_change -/
def preChU (n : Nat) : List PyData → (PyData → Prop) → Prop := fun ds Pd => ∃ (k : Kd) (v : Vl k), k.ok = true ∧ k.dep ≤ n ∧ k.dep ≤ 8 ∧ DV k v ∧ ds = [encK k, enc k v] ∧ Pd = fun d => ∃ c : Vl k.D, d = enc k.D c ∧ DC 500000000000 3 k c ∧ fits k v c = true
theorem sc_law_change : FnScope ["_law_urn_here", "_law_kind", "_law_value_here", "_law_first", "_law_same"] ["_law_urn_here", "_law_kind", "_law_value_here"] (defScope s_law_change) := ⟨rfl, rfl, rfl, by decide +kernel, rfl, by decide +kernel, by decide +kernel⟩
theorem ok_law_change (Z : Fs w K mg) : ∀ n, OkF P w K mg base "_law_change" ["_law_urn_here", "_law_kind", "_law_value_here"] (n + 5) (spU (preChU n))
  | 0 => Z.f_law_change.ok (k := 4) sc_law_change (spU_len fun ds Pd ⟨k, v, _, _, _, _, e, _⟩ => by rw [e]; rfl) (fun _ _ _ _ _ _ us hl => match us, hl with | [_, _, _], _ => rfl) fun f cdv A outer s H vs Q E hr ⟨_, _, _, _, _, _, _, ⟨k, v, _, hd, _⟩, _⟩ => by
    have := k.dep_pos
    exfalso
    omega
  | n + 1 => by
    have sc := sc_law_change
    have O_law_pull := ok_law_pull (P := P) (base := base) Z
    have O_law_one := ok_law_one (P := P) (base := base) Z
    have O_law_value := ok_law_value (P := P) (base := base) Z (n + 1)
    have O_law_change := ok_law_change Z n
    refine Z.f_law_change.ok (k := n + 5) sc (spU_len fun ds Pd ⟨k, v, _, _, _, _, e, _⟩ => by rw [e]; rfl) (fun _ _ _ _ _ _ us hl => match us, hl with | [_, _, _], _ => rfl) fun f cdv A outer s H vs Q E hr h => ?_
    refine ⟨_, (pss_cons (ps_if (pt_cmpR (op_eqD hr.units) (pe_ix ix_tup (pv 1) pe_int (fun _ _ => rfl)) pe_str (nomark _)) (pss_cons (ps_set (i := 3) sc.nd rfl (by first | exact Or.inl rfl | exact Or.inr rfl) (pe_callO O_law_change hr (ha := (pa_cons (pv 0) (pa_cons (pe_ix ix_tup (pv 1) pe_int (fun _ _ => rfl)) (pa_cons (pe_ix ix_tup (pv 2) pe_int (fun _ _ => rfl)) pa_nil)))))) (pss_one (ps_ret (pe_tupN (pa_cons pe_str (pa_cons (pv 3) (pa_cons (pe_callO O_law_change hr (ha := (pa_cons (pv 0) (pa_cons (pe_ix ix_tup (pv 1) pe_int (fun _ _ => rfl)) (pa_cons (pe_ix ix_tup (pv 2) pe_int (fun _ _ => rfl)) pa_nil))))) pa_nil))))))) pss_nil) (pss_cons (ps_if (pt_cmpR (op_neD hr.units) (pe_ix ix_tup (pv 1) pe_int (fun _ _ => rfl)) pe_str (nomark _)) (pss_one (ps_ret (pe_callO O_law_value hr (ha := (pa_cons (pv 0) (pa_cons (pv 1) pa_nil)))))) pss_nil) (pss_cons (ps_if (pt_cmpR (op_eqD hr.units) (pe_callO O_law_pull hr (ha := (pa_cons (pv 0) (pa_cons pe_int pa_nil)))) pe_int (nomark _)) (pss_cons (ps_set (i := 4) sc.nd rfl (by first | exact Or.inl rfl | exact Or.inr rfl) (pe_tupN (pa_cons (pe_ix ix_tup (pv 2) pe_int (fun _ _ => rfl)) (pa_cons (pe_callO O_law_value hr (ha := (pa_cons (pv 0) (pa_cons (pe_ix ix_tup (pv 1) (pe_ifExp (pt_cmpR (op_eqD hr.units) (pe_ix ix_tup (pv 2) pe_int (fun _ _ => rfl)) pe_str (nomark _)) pe_int pe_int) (fun _ _ => rfl)) pa_nil)))) pa_nil)))) (pss_one (ps_ret (pe_tupN (pa_cons pe_str (pa_cons (pe_callO O_law_one hr (ha := (pa_cons (pv 0) (pa_cons (pe_tupN (pa_cons (pe_callO O_law_value hr (ha := (pa_cons (pv 0) (pa_cons (pv 1) pa_nil)))) (pa_cons (pv 4) (pa_cons (pv 2) pa_nil)))) pa_nil)))) pa_nil)))))) pss_nil) (pss_one (ps_ret (pe_tupN (pa_cons pe_str (pa_cons (pe_tupN (pa_cons (pe_ix ix_tup (pv 2) pe_int (fun _ _ => rfl)) (pa_cons (pe_callO O_law_change hr (ha := (pa_cons (pv 0) (pa_cons (pe_ix ix_tup (pv 1) (pe_ifExp (pt_cmpR (op_eqD hr.units) (pe_ix ix_tup (pv 2) pe_int (fun _ _ => rfl)) pe_str (nomark _)) pe_int pe_int) (fun _ _ => rfl)) (pa_cons (pe_ix ix_tup (pv 2) pe_int (fun _ _ => rfl)) pa_nil))))) pa_nil))) pa_nil)))))))), ?_⟩
    obtain ⟨u, rest, ds, Pd, rfl, U, t, ⟨k, x, ok, hd, h8, dv, rfl, rfl⟩, q⟩ := h
    obtain ⟨v, y, rfl, tv, ty⟩ := tp2 t
    have G := growU u
    have fin : ∀ (v : V) (c : Vl k.D) H', RU u H H' → Tp H' v (enc k.D c) → DC 500000000000 3 k c → fits k x c = true → Q v H' := fun v c H' a b e g => q v _ H' a b ⟨c, rfl, e, g⟩
    cases k with
    | unit =>
      refine EvS.run G (es_ifF G (EvT.eq (evt_k0 G tv "pair") tq_unit_pair) (es_ifT G (EvT.eq (evt_k0n G tv "either") tn_unit_either) (es_retE G (eve_call U (pre := preValU (n + 1)) (eva_one G (ev_var G tv)) ⟨.unit, ok, hd, h8, rfl, rfl⟩) fun v1 d1 H1 g t ⟨c, ec, dc⟩ => ?_)))
      subst ec
      exact fin v1 c H1 g t ⟨dc.ok, dc.sm⟩ rfl
    | num =>
      refine EvS.run G (es_ifF G (EvT.eq (evt_k0 G tv "pair") tq_num_pair) (es_ifT G (EvT.eq (evt_k0n G tv "either") tn_num_either) (es_retE G (eve_call U (pre := preValU (n + 1)) (eva_one G (ev_var G tv)) ⟨.num, ok, hd, h8, rfl, rfl⟩) fun v1 d1 H1 g t ⟨c, ec, dc⟩ => ?_)))
      subst ec
      exact fin v1 c H1 g t ⟨dc.ok, dc.sm⟩ rfl
    | bag a =>
      refine EvS.run G (es_ifF G (EvT.eq (evt_k0 G tv "pair") tq_bag_pair) (es_ifT G (EvT.eq (evt_k0n G tv "either") tn_bag_either) (es_retE G (eve_call U (pre := preValU (n + 1)) (eva_one G (ev_var G tv)) ⟨.bag a, ok, hd, h8, rfl, rfl⟩) fun v1 d1 H1 g t ⟨c, ec, dc⟩ => ?_)))
      subst ec
      exact fin v1 c H1 g t ⟨dc.ok, dc.sm⟩ rfl
    | pair a b =>
      have hdep : (Kd.pair a b).dep = max a.dep b.dep + 1 := rfl
      obtain ⟨o1, o2⟩ := Bool.and_eq_true_iff.mp (show (a.ok && b.ok) = true from ok)
      have ty' : Tp H y (.tuple [.str "pair", enc a x.1, enc b x.2]) := ty
      refine EvS.run G (es_ifT G (EvT.eq (evt_k0 G tv "pair") tq_pair_pair) (es_setE G (eve_call U (pre := preChU n) (eva_two G (ev_ix1 G (ds := [.str "pair", encK a, encK b]) (ev_var G tv)) (ev_ix1 G (ev_var G ty'))) ⟨a, x.1, o1, by omega, by omega, ⟨dv.ok.1, dv.sm.1⟩, rfl, rfl⟩) fun v1 d1 H1 g1 t1 ⟨c1, e1, dc1, f1⟩ => ?_))
      subst e1
      refine es_retE G (eve_tup G (eae_cons G (EvD.eve (ev_str G) (Pd := fun d => d = .str "pair") rfl) (eae_cons G (EvD.eve (ev_var G t1) (Pd := fun d => d = enc a.D c1) rfl) (eae_cons G (eve_call (g1.2.2 U) (pre := preChU n) (eva_two G (ev_ix2 G (ds := [.str "pair", encK a, encK b]) (ev_var G (tv.mono (G.tk g1)))) (ev_ix2 G (ev_var G (ty'.mono (G.tk g1))))) ⟨b, x.2, o2, by omega, by omega, ⟨dv.ok.2, dv.sm.2⟩, rfl, rfl⟩) (eae_nil G)))) (by rintro l ⟨_, _, rfl, _, _, _, rfl, _, _, _, rfl, _, rfl⟩; show 3 ≤ 1000; decide)) ?_
      rintro v3 d3 H3 g3 t3 ⟨l, rfl, _, _, rfl, rfl, _, _, rfl, rfl, _, _, rfl, ⟨c2, rfl, dc2, f2⟩, rfl⟩
      exact fin v3 ((c1, c2) : Vl a.D × Vl b.D) H3 (G.trans g1 g3) t3 ⟨⟨dc1.ok, dc2.ok⟩, ⟨dc1.sm, dc2.sm⟩⟩ (Bool.and_eq_true_iff.mpr ⟨f1, f2⟩)
    | either a b =>
      have hdep : (Kd.either a b).dep = max a.dep b.dep + 1 := rfl
      obtain ⟨o1, o2⟩ := Bool.and_eq_true_iff.mp (show (a.ok && b.ok) = true from ok)
      refine EvS.run G (es_ifF G (EvT.eq (evt_k0 G tv "pair") tq_either_pair) (es_ifF G (EvT.eq (evt_k0n G tv "either") tn_either_either) ?_))
      match x, dv, ty, fin with
      | .inl x, dv, ty, fin =>
        have ty' : Tp H y (.tuple [.str "left", enc a x]) := ty
        refine es_ifE G (eve_call U (pre := prePull) (eva_one G (ev_int G)) ⟨3, by decide, by decide, rfl, rfl⟩) (ev_int G) (fun H1 g1 => ?_) fun H1 g1 => ?_
        · have tv1 := tv.mono (G.tk g1)
          have ty1 := ty'.mono (G.tk g1)
          have U1 := g1.2.2 U
          refine es_setE G (eve_tup G (eae_cons G (EvD.eve (ev_ix0 G (ev_var G ty1)) (Pd := fun d => d = .str "left") rfl) (eae_cons G (eve_call U1 (pre := preValU (n + 1)) (eva_one G (ev_sideLG G tv1 ty1)) ⟨a, o1, by omega, by omega, rfl, rfl⟩) (eae_nil G))) (by rintro l ⟨_, _, rfl, _, _, _, rfl, _, rfl⟩; show 2 ≤ 1000; decide)) ?_
          rintro v2 d2 H2 g2 t2 ⟨l, rfl, _, _, rfl, rfl, _, _, rfl, ⟨z, rfl, dz⟩, rfl⟩
          have U2 := g2.2.2 U1
          refine es_retE G (eve_tup G (eae_cons G (EvD.eve (ev_str G) (Pd := fun d => d = .str "right") rfl) (eae_cons G (eve_callE (Pd := fun d => ∃ w : Vl (.either a b), d = enc (.either a b) w ∧ DV (.either a b) w) U2 (eae_cons G (eve_tup G (eae_cons G (eve_call U2 (pre := preValU (n + 1)) (eva_one G (ev_var G (tv1.mono (G.tk g2)))) ⟨.either a b, ok, hd, h8, rfl, rfl⟩) (eae_cons G (EvD.eve (ev_var G t2) (Pd := fun d => d = enc (.either a b) (.inl z)) rfl) (eae_cons G (EvD.eve (ev_var G (ty1.mono (G.tk g2))) (Pd := fun d => d = enc (.either a b) (.inl x)) rfl) (eae_nil G)))) (by rintro l ⟨_, _, rfl, _, _, _, rfl, _, _, _, rfl, _, rfl⟩; show 3 ≤ 1000; decide)) (eae_nil G)) ?_) (eae_nil G))) (by rintro l ⟨_, _, rfl, _, _, _, rfl, _, rfl⟩; show 2 ≤ 1000; decide)) ?_
          · rintro ds ⟨_, _, rfl, ⟨l, rfl, ⟨_, _, rfl, ⟨w0, rfl, dw⟩, _, _, rfl, rfl, _, _, rfl, rfl, rfl⟩⟩, rfl⟩
            refine ⟨_, ⟨_, ?_, ?_, rfl, rfl⟩, fun d hd' => ?_⟩
            · exact Nat.succ_pos 2
            · show 3 ≤ 1000
              decide
            · simp only [List.mem_cons, List.not_mem_nil, or_false] at hd'
              rcases hd' with rfl | rfl | rfl
              · exact ⟨w0, rfl, dw⟩
              · exact ⟨.inl z, rfl, ⟨dz.ok, dz.sm⟩⟩
              · exact ⟨.inl x, rfl, dv⟩
          · rintro v3 d3 H3 g3 t3 ⟨l, rfl, _, _, rfl, rfl, _, _, rfl, ⟨w0, rfl, dw⟩, rfl⟩
            exact fin v3 (.inr w0 : Sum (Sum (Vl a.D) (Vl b.D)) (Sum (Vl a) (Vl b))) H3 (G.trans (G.trans g1 g2) g3) t3 ⟨dw.ok, dw.sm⟩ rfl
        · have tv1 := tv.mono (G.tk g1)
          have ty1 := ty'.mono (G.tk g1)
          have U1 := g1.2.2 U
          refine es_retE G (eve_tup G (eae_cons G (EvD.eve (ev_str G) (Pd := fun d => d = .str "left") rfl) (eae_cons G (eve_tup G (eae_cons G (EvD.eve (ev_ix0 G (ev_var G ty1)) (Pd := fun d => d = .str "left") rfl) (eae_cons G (eve_call U1 (pre := preChU n) (eva_two G (ev_sideLG G tv1 ty1) (ev_ix1 G (ev_var G ty1))) ⟨a, x, o1, by omega, by omega, ⟨dv.ok, dv.sm⟩, rfl, rfl⟩) (eae_nil G))) (by rintro l ⟨_, _, rfl, _, _, _, rfl, _, rfl⟩; show 2 ≤ 1000; decide)) (eae_nil G))) (by rintro l ⟨_, _, rfl, _, _, _, rfl, _, rfl⟩; show 2 ≤ 1000; decide)) ?_
          rintro v3 d3 H3 g3 t3 ⟨l, rfl, _, _, rfl, rfl, _, _, rfl, ⟨l2, rfl, ⟨_, _, rfl, rfl, _, _, rfl, ⟨c, rfl, dc, fc⟩, rfl⟩⟩, rfl⟩
          exact fin v3 (.inl (.inl c) : Sum (Sum (Vl a.D) (Vl b.D)) (Sum (Vl a) (Vl b))) H3 (G.trans g1 g3) t3 ⟨dc.ok, dc.sm⟩ fc
      | .inr x, dv, ty, fin =>
        have ty' : Tp H y (.tuple [.str "right", enc b x]) := ty
        refine es_ifE G (eve_call U (pre := prePull) (eva_one G (ev_int G)) ⟨3, by decide, by decide, rfl, rfl⟩) (ev_int G) (fun H1 g1 => ?_) fun H1 g1 => ?_
        · have tv1 := tv.mono (G.tk g1)
          have ty1 := ty'.mono (G.tk g1)
          have U1 := g1.2.2 U
          refine es_setE G (eve_tup G (eae_cons G (EvD.eve (ev_ix0 G (ev_var G ty1)) (Pd := fun d => d = .str "right") rfl) (eae_cons G (eve_call U1 (pre := preValU (n + 1)) (eva_one G (ev_sideRG G tv1 ty1)) ⟨b, o2, by omega, by omega, rfl, rfl⟩) (eae_nil G))) (by rintro l ⟨_, _, rfl, _, _, _, rfl, _, rfl⟩; show 2 ≤ 1000; decide)) ?_
          rintro v2 d2 H2 g2 t2 ⟨l, rfl, _, _, rfl, rfl, _, _, rfl, ⟨z, rfl, dz⟩, rfl⟩
          have U2 := g2.2.2 U1
          refine es_retE G (eve_tup G (eae_cons G (EvD.eve (ev_str G) (Pd := fun d => d = .str "right") rfl) (eae_cons G (eve_callE (Pd := fun d => ∃ w : Vl (.either a b), d = enc (.either a b) w ∧ DV (.either a b) w) U2 (eae_cons G (eve_tup G (eae_cons G (eve_call U2 (pre := preValU (n + 1)) (eva_one G (ev_var G (tv1.mono (G.tk g2)))) ⟨.either a b, ok, hd, h8, rfl, rfl⟩) (eae_cons G (EvD.eve (ev_var G t2) (Pd := fun d => d = enc (.either a b) (.inr z)) rfl) (eae_cons G (EvD.eve (ev_var G (ty1.mono (G.tk g2))) (Pd := fun d => d = enc (.either a b) (.inr x)) rfl) (eae_nil G)))) (by rintro l ⟨_, _, rfl, _, _, _, rfl, _, _, _, rfl, _, rfl⟩; show 3 ≤ 1000; decide)) (eae_nil G)) ?_) (eae_nil G))) (by rintro l ⟨_, _, rfl, _, _, _, rfl, _, rfl⟩; show 2 ≤ 1000; decide)) ?_
          · rintro ds ⟨_, _, rfl, ⟨l, rfl, ⟨_, _, rfl, ⟨w0, rfl, dw⟩, _, _, rfl, rfl, _, _, rfl, rfl, rfl⟩⟩, rfl⟩
            refine ⟨_, ⟨_, ?_, ?_, rfl, rfl⟩, fun d hd' => ?_⟩
            · exact Nat.succ_pos 2
            · show 3 ≤ 1000
              decide
            · simp only [List.mem_cons, List.not_mem_nil, or_false] at hd'
              rcases hd' with rfl | rfl | rfl
              · exact ⟨w0, rfl, dw⟩
              · exact ⟨.inr z, rfl, ⟨dz.ok, dz.sm⟩⟩
              · exact ⟨.inr x, rfl, dv⟩
          · rintro v3 d3 H3 g3 t3 ⟨l, rfl, _, _, rfl, rfl, _, _, rfl, ⟨w0, rfl, dw⟩, rfl⟩
            exact fin v3 (.inr w0 : Sum (Sum (Vl a.D) (Vl b.D)) (Sum (Vl a) (Vl b))) H3 (G.trans (G.trans g1 g2) g3) t3 ⟨dw.ok, dw.sm⟩ rfl
        · have tv1 := tv.mono (G.tk g1)
          have ty1 := ty'.mono (G.tk g1)
          have U1 := g1.2.2 U
          refine es_retE G (eve_tup G (eae_cons G (EvD.eve (ev_str G) (Pd := fun d => d = .str "left") rfl) (eae_cons G (eve_tup G (eae_cons G (EvD.eve (ev_ix0 G (ev_var G ty1)) (Pd := fun d => d = .str "right") rfl) (eae_cons G (eve_call U1 (pre := preChU n) (eva_two G (ev_sideRG G tv1 ty1) (ev_ix1 G (ev_var G ty1))) ⟨b, x, o2, by omega, by omega, ⟨dv.ok, dv.sm⟩, rfl, rfl⟩) (eae_nil G))) (by rintro l ⟨_, _, rfl, _, _, _, rfl, _, rfl⟩; show 2 ≤ 1000; decide)) (eae_nil G))) (by rintro l ⟨_, _, rfl, _, _, _, rfl, _, rfl⟩; show 2 ≤ 1000; decide)) ?_
          rintro v3 d3 H3 g3 t3 ⟨l, rfl, _, _, rfl, rfl, _, _, rfl, ⟨l2, rfl, ⟨_, _, rfl, rfl, _, _, rfl, ⟨c, rfl, dc, fc⟩, rfl⟩⟩, rfl⟩
          exact fin v3 (.inl (.inr c) : Sum (Sum (Vl a.D) (Vl b.D)) (Sum (Vl a) (Vl b))) H3 (G.trans g1 g3) t3 ⟨dc.ok, dc.sm⟩ fc
/-! _law_still -/
def preStU (n : Nat) : List PyData → (PyData → Prop) → Prop := fun ds Pd => ∃ (k : Kd) (v : Vl k), k.ok = true ∧ k.dep ≤ n ∧ k.dep ≤ 8 ∧ DV k v ∧ ds = [encK k, enc k v] ∧ Pd = fun d => ∃ c : Vl k.D, d = enc k.D c ∧ DC 1000000000000 6 k c ∧ fits k v c = true
theorem sc_law_still : FnScope ["_law_urn_here", "_law_kind", "_law_value_here", "_law_first"] ["_law_urn_here", "_law_kind", "_law_value_here"] (defScope s_law_still) := ⟨rfl, rfl, rfl, by decide +kernel, rfl, by decide +kernel, by decide +kernel⟩
theorem ok_law_still (Z : Fs w K mg) : ∀ n, OkF P w K mg base "_law_still" ["_law_urn_here", "_law_kind", "_law_value_here"] (n + 5) (spU (preStU n))
  | 0 => Z.f_law_still.ok (k := 4) sc_law_still (spU_len fun ds Pd ⟨k, v, _, _, _, _, e, _⟩ => by rw [e]; rfl) (fun _ _ _ _ _ _ us hl => match us, hl with | [_, _, _], _ => rfl) fun f cdv A outer s H vs Q E hr ⟨_, _, _, _, _, _, _, ⟨k, v, _, hd, _⟩, _⟩ => by
    have := k.dep_pos
    exfalso
    omega
  | n + 1 => by
    have sc := sc_law_still
    have O_law_pull := ok_law_pull (P := P) (base := base) Z
    have O_law_less := ok_law_less (P := P) (base := base) Z (n + 1)
    have O_law_still := ok_law_still Z n
    refine Z.f_law_still.ok (k := n + 5) sc (spU_len fun ds Pd ⟨k, v, _, _, _, _, e, _⟩ => by rw [e]; rfl) (fun _ _ _ _ _ _ us hl => match us, hl with | [_, _, _], _ => rfl) fun f cdv A outer s H vs Q E hr h => ?_
    refine ⟨_, (pss_cons (ps_if (pt_cmpR (op_eqD hr.units) (pe_ix ix_tup (pv 1) pe_int (fun _ _ => rfl)) pe_str (nomark _)) (pss_cons (ps_set (i := 3) sc.nd rfl (by first | exact Or.inl rfl | exact Or.inr rfl) (pe_callO O_law_still hr (ha := (pa_cons (pv 0) (pa_cons (pe_ix ix_tup (pv 1) pe_int (fun _ _ => rfl)) (pa_cons (pe_ix ix_tup (pv 2) pe_int (fun _ _ => rfl)) pa_nil)))))) (pss_one (ps_ret (pe_tupN (pa_cons pe_str (pa_cons (pv 3) (pa_cons (pe_callO O_law_still hr (ha := (pa_cons (pv 0) (pa_cons (pe_ix ix_tup (pv 1) pe_int (fun _ _ => rfl)) (pa_cons (pe_ix ix_tup (pv 2) pe_int (fun _ _ => rfl)) pa_nil))))) pa_nil))))))) pss_nil) (pss_cons (ps_if (pt_cmpR (op_neD hr.units) (pe_ix ix_tup (pv 1) pe_int (fun _ _ => rfl)) pe_str (nomark _)) (pss_one (ps_ret (pe_callO O_law_less hr (ha := (pa_cons (pv 1) (pa_cons (pv 2) (pa_cons (pv 2) pa_nil))))))) pss_nil) (pss_cons (ps_if (pt_cmpR (op_eqD hr.units) (pe_callO O_law_pull hr (ha := (pa_cons (pv 0) (pa_cons pe_int pa_nil)))) pe_int (nomark _)) (pss_one (ps_ret (pe_tupN (pa_cons pe_str (pa_cons (pv 2) pa_nil))))) pss_nil) (pss_one (ps_ret (pe_tupN (pa_cons pe_str (pa_cons (pe_tupN (pa_cons (pe_ix ix_tup (pv 2) pe_int (fun _ _ => rfl)) (pa_cons (pe_callO O_law_still hr (ha := (pa_cons (pv 0) (pa_cons (pe_ix ix_tup (pv 1) (pe_ifExp (pt_cmpR (op_eqD hr.units) (pe_ix ix_tup (pv 2) pe_int (fun _ _ => rfl)) pe_str (nomark _)) pe_int pe_int) (fun _ _ => rfl)) (pa_cons (pe_ix ix_tup (pv 2) pe_int (fun _ _ => rfl)) pa_nil))))) pa_nil))) pa_nil)))))))), ?_⟩
    obtain ⟨u, rest, ds, Pd, rfl, U, t, ⟨k, x, ok, hd, h8, dv, rfl, rfl⟩, q⟩ := h
    obtain ⟨v, y, rfl, tv, ty⟩ := tp2 t
    have G := growU u
    have fin : ∀ (v : V) (c : Vl k.D) H', RU u H H' → Tp H' v (enc k.D c) → DC 1000000000000 6 k c → fits k x c = true → Q v H' := fun v c H' a b e g => q v _ H' a b ⟨c, rfl, e, g⟩
    cases k with
    | unit => exact EvS.run G (es_ifF G (EvT.eq (evt_k0 G tv "pair") tq_unit_pair) (es_ifT G (EvT.eq (evt_k0n G tv "either") tn_unit_either) (es_ret G (ev_call G (pre := preLess (n + 1)) (eva_cons G (ev_var G tv) (eva_two G (ev_var G ty) (ev_var G ty))) ⟨.unit, x, x, ok, hd, h8, dv.gd, dv.gd, rfl, rfl⟩) fun v1 H1 g t => fin v1 _ H1 g t ⟨okv_less (.unit) ok x x dv.ok dv.ok, small_less (.unit) x x dv.sm dv.sm⟩ (fits_less (.unit) x x))))
    | num => exact EvS.run G (es_ifF G (EvT.eq (evt_k0 G tv "pair") tq_num_pair) (es_ifT G (EvT.eq (evt_k0n G tv "either") tn_num_either) (es_ret G (ev_call G (pre := preLess (n + 1)) (eva_cons G (ev_var G tv) (eva_two G (ev_var G ty) (ev_var G ty))) ⟨.num, x, x, ok, hd, h8, dv.gd, dv.gd, rfl, rfl⟩) fun v1 H1 g t => fin v1 _ H1 g t ⟨okv_less (.num) ok x x dv.ok dv.ok, small_less (.num) x x dv.sm dv.sm⟩ (fits_less (.num) x x))))
    | bag a => exact EvS.run G (es_ifF G (EvT.eq (evt_k0 G tv "pair") tq_bag_pair) (es_ifT G (EvT.eq (evt_k0n G tv "either") tn_bag_either) (es_ret G (ev_call G (pre := preLess (n + 1)) (eva_cons G (ev_var G tv) (eva_two G (ev_var G ty) (ev_var G ty))) ⟨.bag a, x, x, ok, hd, h8, dv.gd, dv.gd, rfl, rfl⟩) fun v1 H1 g t => fin v1 _ H1 g t ⟨okv_less (.bag a) ok x x dv.ok dv.ok, small_less (.bag a) x x dv.sm dv.sm⟩ (fits_less (.bag a) x x))))
    | pair a b =>
      have hdep : (Kd.pair a b).dep = max a.dep b.dep + 1 := rfl
      obtain ⟨o1, o2⟩ := Bool.and_eq_true_iff.mp (show (a.ok && b.ok) = true from ok)
      have ty' : Tp H y (.tuple [.str "pair", enc a x.1, enc b x.2]) := ty
      refine EvS.run G (es_ifT G (EvT.eq (evt_k0 G tv "pair") tq_pair_pair) (es_setE G (eve_call U (pre := preStU n) (eva_two G (ev_ix1 G (ds := [.str "pair", encK a, encK b]) (ev_var G tv)) (ev_ix1 G (ev_var G ty'))) ⟨a, x.1, o1, by omega, by omega, ⟨dv.ok.1, dv.sm.1⟩, rfl, rfl⟩) fun v1 d1 H1 g1 t1 ⟨c1, e1, dc1, f1⟩ => ?_))
      subst e1
      refine es_retE G (eve_tup G (eae_cons G (EvD.eve (ev_str G) (Pd := fun d => d = .str "pair") rfl) (eae_cons G (EvD.eve (ev_var G t1) (Pd := fun d => d = enc a.D c1) rfl) (eae_cons G (eve_call (g1.2.2 U) (pre := preStU n) (eva_two G (ev_ix2 G (ds := [.str "pair", encK a, encK b]) (ev_var G (tv.mono (G.tk g1)))) (ev_ix2 G (ev_var G (ty'.mono (G.tk g1))))) ⟨b, x.2, o2, by omega, by omega, ⟨dv.ok.2, dv.sm.2⟩, rfl, rfl⟩) (eae_nil G)))) (by rintro l ⟨_, _, rfl, _, _, _, rfl, _, _, _, rfl, _, rfl⟩; show 3 ≤ 1000; decide)) ?_
      rintro v3 d3 H3 g3 t3 ⟨l, rfl, _, _, rfl, rfl, _, _, rfl, rfl, _, _, rfl, ⟨c2, rfl, dc2, f2⟩, rfl⟩
      exact fin v3 ((c1, c2) : Vl a.D × Vl b.D) H3 (G.trans g1 g3) t3 ⟨⟨dc1.ok, dc2.ok⟩, ⟨dc1.sm, dc2.sm⟩⟩ (Bool.and_eq_true_iff.mpr ⟨f1, f2⟩)
    | either a b =>
      have hdep : (Kd.either a b).dep = max a.dep b.dep + 1 := rfl
      obtain ⟨o1, o2⟩ := Bool.and_eq_true_iff.mp (show (a.ok && b.ok) = true from ok)
      refine EvS.run G (es_ifF G (EvT.eq (evt_k0 G tv "pair") tq_either_pair) (es_ifF G (EvT.eq (evt_k0n G tv "either") tn_either_either) ?_))
      match x, dv, ty, fin with
      | .inl x, dv, ty, fin =>
        have ty' : Tp H y (.tuple [.str "left", enc a x]) := ty
        refine es_ifE G (eve_call U (pre := prePull) (eva_one G (ev_int G)) ⟨3, by decide, by decide, rfl, rfl⟩) (ev_int G) (fun H1 g1 => ?_) fun H1 g1 => ?_
        · have ty1 := ty'.mono (G.tk g1)
          refine es_ret G (d := .tuple [.str "right", .tuple [.str "left", enc a x]]) (ev_tup G (eva_two G (ev_str G) (ev_var G ty1)) (show 2 ≤ 1000 by decide)) fun v3 H3 g3 t3 => ?_
          exact fin v3 (.inr (.inl x) : Sum (Sum (Vl a.D) (Vl b.D)) (Sum (Vl a) (Vl b))) H3 (G.trans g1 g3) t3 ⟨dv.ok, small_mono (by decide) (by decide) a x dv.sm⟩ rfl
        · have tv1 := tv.mono (G.tk g1)
          have ty1 := ty'.mono (G.tk g1)
          have U1 := g1.2.2 U
          refine es_retE G (eve_tup G (eae_cons G (EvD.eve (ev_str G) (Pd := fun d => d = .str "left") rfl) (eae_cons G (eve_tup G (eae_cons G (EvD.eve (ev_ix0 G (ev_var G ty1)) (Pd := fun d => d = .str "left") rfl) (eae_cons G (eve_call U1 (pre := preStU n) (eva_two G (ev_sideLG G tv1 ty1) (ev_ix1 G (ev_var G ty1))) ⟨a, x, o1, by omega, by omega, ⟨dv.ok, dv.sm⟩, rfl, rfl⟩) (eae_nil G))) (by rintro l ⟨_, _, rfl, _, _, _, rfl, _, rfl⟩; show 2 ≤ 1000; decide)) (eae_nil G))) (by rintro l ⟨_, _, rfl, _, _, _, rfl, _, rfl⟩; show 2 ≤ 1000; decide)) ?_
          rintro v3 d3 H3 g3 t3 ⟨l, rfl, _, _, rfl, rfl, _, _, rfl, ⟨l2, rfl, ⟨_, _, rfl, rfl, _, _, rfl, ⟨c, rfl, dc, fc⟩, rfl⟩⟩, rfl⟩
          exact fin v3 (.inl (.inl c) : Sum (Sum (Vl a.D) (Vl b.D)) (Sum (Vl a) (Vl b))) H3 (G.trans g1 g3) t3 ⟨dc.ok, dc.sm⟩ fc
      | .inr x, dv, ty, fin =>
        have ty' : Tp H y (.tuple [.str "right", enc b x]) := ty
        refine es_ifE G (eve_call U (pre := prePull) (eva_one G (ev_int G)) ⟨3, by decide, by decide, rfl, rfl⟩) (ev_int G) (fun H1 g1 => ?_) fun H1 g1 => ?_
        · have ty1 := ty'.mono (G.tk g1)
          refine es_ret G (d := .tuple [.str "right", .tuple [.str "right", enc b x]]) (ev_tup G (eva_two G (ev_str G) (ev_var G ty1)) (show 2 ≤ 1000 by decide)) fun v3 H3 g3 t3 => ?_
          exact fin v3 (.inr (.inr x) : Sum (Sum (Vl a.D) (Vl b.D)) (Sum (Vl a) (Vl b))) H3 (G.trans g1 g3) t3 ⟨dv.ok, small_mono (by decide) (by decide) b x dv.sm⟩ rfl
        · have tv1 := tv.mono (G.tk g1)
          have ty1 := ty'.mono (G.tk g1)
          have U1 := g1.2.2 U
          refine es_retE G (eve_tup G (eae_cons G (EvD.eve (ev_str G) (Pd := fun d => d = .str "left") rfl) (eae_cons G (eve_tup G (eae_cons G (EvD.eve (ev_ix0 G (ev_var G ty1)) (Pd := fun d => d = .str "right") rfl) (eae_cons G (eve_call U1 (pre := preStU n) (eva_two G (ev_sideRG G tv1 ty1) (ev_ix1 G (ev_var G ty1))) ⟨b, x, o2, by omega, by omega, ⟨dv.ok, dv.sm⟩, rfl, rfl⟩) (eae_nil G))) (by rintro l ⟨_, _, rfl, _, _, _, rfl, _, rfl⟩; show 2 ≤ 1000; decide)) (eae_nil G))) (by rintro l ⟨_, _, rfl, _, _, _, rfl, _, rfl⟩; show 2 ≤ 1000; decide)) ?_
          rintro v3 d3 H3 g3 t3 ⟨l, rfl, _, _, rfl, rfl, _, _, rfl, ⟨l2, rfl, ⟨_, _, rfl, rfl, _, _, rfl, ⟨c, rfl, dc, fc⟩, rfl⟩⟩, rfl⟩
          exact fin v3 (.inl (.inr c) : Sum (Sum (Vl a.D) (Vl b.D)) (Sum (Vl a) (Vl b))) H3 (G.trans g1 g3) t3 ⟨dc.ok, dc.sm⟩ fc
/-! _law_otherwise -/
def preOtU (n : Nat) : List PyData → (PyData → Prop) → Prop := fun ds Pd => ∃ (k : Kd) (v : Vl k) (c : Vl k.D), k.ok = true ∧ k.dep ≤ n ∧ k.dep ≤ 8 ∧ DV k v ∧ DC 1000000000000 6 k c ∧ ds = [encK k, enc k v, enc k.D c] ∧ Pd = fun d => ∃ e : Vl k.D, d = enc k.D e ∧ DC 2000000000000 12 k e
theorem DC.up {m l m' l' : Nat} {k : Kd} {c : Vl k.D} (h : DC m l k c) (h1 : m ≤ m') (h2 : l ≤ l') : DC m' l' k c := ⟨h.ok, small_mono h1 h2 k.D c h.sm⟩
theorem DC.gd {m l : Nat} {k : Kd} {c : Vl k.D} (h : DC m l k c) (h1 : m ≤ 10 ^ 15) (h2 : l ≤ 30) : Gd k.D c := ⟨h.ok, small_mono h1 h2 k.D c h.sm⟩
/-- where a change leads, and what leads there -/
theorem led_gd {k : Kd} (ok : k.ok = true) {v : Vl k} {c : Vl k.D} (dv : DV k v) (dc : DC 1000000000000 6 k c) : Okv k (led k v c) ∧ Small 1500000000000 9 k (led k v c) := ⟨okv_led k ok v c dv.ok dc.ok, small_led k v c dv.sm dc.sm⟩
theorem sc_law_otherwise : FnScope ["_law_urn_here", "_law_kind", "_law_value_here", "_law_change_here", "_law_first", "_law_new"] ["_law_urn_here", "_law_kind", "_law_value_here", "_law_change_here"] (defScope s_law_otherwise) := ⟨rfl, rfl, rfl, by decide +kernel, rfl, by decide +kernel, by decide +kernel⟩
theorem ok_law_otherwise (Z : Fs w K mg) : ∀ n, OkF P w K mg base "_law_otherwise" ["_law_urn_here", "_law_kind", "_law_value_here", "_law_change_here"] (n + 5) (spU (preOtU n))
  | 0 => Z.f_law_otherwise.ok (k := 4) sc_law_otherwise (spU_len fun ds Pd ⟨k, v, c, _, _, _, _, _, e, _⟩ => by rw [e]; rfl) (fun _ _ _ _ _ _ us hl => match us, hl with | [_, _, _, _], _ => rfl) fun f cdv A outer s H vs Q E hr ⟨_, _, _, _, _, _, _, ⟨k, v, c, _, hd, _⟩, _⟩ => by
    have := k.dep_pos
    exfalso
    omega
  | n + 1 => by
    have sc := sc_law_otherwise
    have O_law_pull := ok_law_pull (P := P) (base := base) Z
    have O_law_led := ok_law_led (P := P) (base := base) Z (n + 1)
    have O_law_less := ok_law_less (P := P) (base := base) Z (n + 1)
    have O_law_otherwise := ok_law_otherwise Z n
    refine Z.f_law_otherwise.ok (k := n + 5) sc (spU_len fun ds Pd ⟨k, v, c, _, _, _, _, _, e, _⟩ => by rw [e]; rfl) (fun _ _ _ _ _ _ us hl => match us, hl with | [_, _, _, _], _ => rfl) fun f cdv A outer s H vs Q E hr h => ?_
    refine ⟨_, (pss_cons (ps_if (pt_cmpR (op_eqD hr.units) (pe_ix ix_tup (pv 1) pe_int (fun _ _ => rfl)) pe_str (nomark _)) (pss_cons (ps_set (i := 4) sc.nd rfl (by first | exact Or.inl rfl | exact Or.inr rfl) (pe_callO O_law_otherwise hr (ha := (pa_cons (pv 0) (pa_cons (pe_ix ix_tup (pv 1) pe_int (fun _ _ => rfl)) (pa_cons (pe_ix ix_tup (pv 2) pe_int (fun _ _ => rfl)) (pa_cons (pe_ix ix_tup (pv 3) pe_int (fun _ _ => rfl)) pa_nil))))))) (pss_one (ps_ret (pe_tupN (pa_cons pe_str (pa_cons (pv 4) (pa_cons (pe_callO O_law_otherwise hr (ha := (pa_cons (pv 0) (pa_cons (pe_ix ix_tup (pv 1) pe_int (fun _ _ => rfl)) (pa_cons (pe_ix ix_tup (pv 2) pe_int (fun _ _ => rfl)) (pa_cons (pe_ix ix_tup (pv 3) pe_int (fun _ _ => rfl)) pa_nil)))))) pa_nil))))))) pss_nil) (pss_cons (ps_if (pt_cmpR (op_neD hr.units) (pe_ix ix_tup (pv 1) pe_int (fun _ _ => rfl)) pe_str (nomark _)) (pss_one (ps_ret (pv 3))) pss_nil) (pss_cons (ps_set (i := 5) sc.nd rfl (by first | exact Or.inl rfl | exact Or.inr rfl) (pe_callO O_law_led hr (ha := (pa_cons (pv 1) (pa_cons (pv 2) (pa_cons (pv 3) pa_nil)))))) (pss_one (ps_ret (pe_ifExp (pt_cmpR (op_eqD hr.units) (pe_callO O_law_pull hr (ha := (pa_cons (pv 0) (pa_cons pe_int pa_nil)))) pe_int (nomark _)) (pe_tupN (pa_cons pe_str (pa_cons (pv 5) pa_nil))) (pe_callO O_law_less hr (ha := (pa_cons (pv 1) (pa_cons (pv 5) (pa_cons (pv 2) pa_nil))))))))))), ?_⟩
    obtain ⟨u, rest, ds, Pd, rfl, U, t, ⟨k, x, c, ok, hd, h8, dv, dc, rfl, rfl⟩, q⟩ := h
    obtain ⟨v, y, z, rfl, tv, ty, tz⟩ := tp3 t
    have G := growU u
    have fin : ∀ (v : V) (e : Vl k.D) H', RU u H H' → Tp H' v (enc k.D e) → DC 2000000000000 12 k e → Q v H' := fun v e H' a b c => q v _ H' a b ⟨e, rfl, c⟩
    have leaf : DC 2000000000000 12 k c := dc.up (by decide) (by decide)
    cases k with
    | unit => exact EvS.run G (es_ifF G (EvT.eq (evt_k0 G tv "pair") tq_unit_pair) (es_ifT G (EvT.eq (evt_k0n G tv "either") tn_unit_either) (es_ret G (ev_var G tz) fun v1 H1 g t => fin v1 c H1 g t leaf)))
    | num => exact EvS.run G (es_ifF G (EvT.eq (evt_k0 G tv "pair") tq_num_pair) (es_ifT G (EvT.eq (evt_k0n G tv "either") tn_num_either) (es_ret G (ev_var G tz) fun v1 H1 g t => fin v1 c H1 g t leaf)))
    | bag a => exact EvS.run G (es_ifF G (EvT.eq (evt_k0 G tv "pair") tq_bag_pair) (es_ifT G (EvT.eq (evt_k0n G tv "either") tn_bag_either) (es_ret G (ev_var G tz) fun v1 H1 g t => fin v1 c H1 g t leaf)))
    | pair a b =>
      have hdep : (Kd.pair a b).dep = max a.dep b.dep + 1 := rfl
      obtain ⟨o1, o2⟩ := Bool.and_eq_true_iff.mp (show (a.ok && b.ok) = true from ok)
      have ty' : Tp H y (.tuple [.str "pair", enc a x.1, enc b x.2]) := ty
      have tz' : Tp H z (.tuple [.str "pair", enc a.D (show Vl a.D × Vl b.D from c).1, enc b.D (show Vl a.D × Vl b.D from c).2]) := tz
      refine EvS.run G (es_ifT G (EvT.eq (evt_k0 G tv "pair") tq_pair_pair) (es_setE G (eve_call U (pre := preOtU n) (eva_cons G (ev_ix1 G (ds := [.str "pair", encK a, encK b]) (ev_var G tv)) (eva_two G (ev_ix1 G (ev_var G ty')) (ev_ix1 G (ev_var G tz')))) ⟨a, x.1, _, o1, by omega, by omega, ⟨dv.ok.1, dv.sm.1⟩, ⟨dc.ok.1, dc.sm.1⟩, rfl, rfl⟩) fun v1 d1 H1 g1 t1 ⟨c1, e1, dc1⟩ => ?_))
      subst e1
      refine es_retE G (eve_tup G (eae_cons G (EvD.eve (ev_str G) (Pd := fun d => d = .str "pair") rfl) (eae_cons G (EvD.eve (ev_var G t1) (Pd := fun d => d = enc a.D c1) rfl) (eae_cons G (eve_call (g1.2.2 U) (pre := preOtU n) (eva_cons G (ev_ix2 G (ds := [.str "pair", encK a, encK b]) (ev_var G (tv.mono (G.tk g1)))) (eva_two G (ev_ix2 G (ev_var G (ty'.mono (G.tk g1)))) (ev_ix2 G (ev_var G (tz'.mono (G.tk g1)))))) ⟨b, x.2, _, o2, by omega, by omega, ⟨dv.ok.2, dv.sm.2⟩, ⟨dc.ok.2, dc.sm.2⟩, rfl, rfl⟩) (eae_nil G)))) (by rintro l ⟨_, _, rfl, _, _, _, rfl, _, _, _, rfl, _, rfl⟩; show 3 ≤ 1000; decide)) ?_
      rintro v3 d3 H3 g3 t3 ⟨l, rfl, _, _, rfl, rfl, _, _, rfl, rfl, _, _, rfl, ⟨c2, rfl, dc2⟩, rfl⟩
      exact fin v3 ((c1, c2) : Vl a.D × Vl b.D) H3 (G.trans g1 g3) t3 ⟨⟨dc1.ok, dc2.ok⟩, ⟨dc1.sm, dc2.sm⟩⟩
    | either a b =>
      obtain ⟨ol, sl⟩ := led_gd (k := .either a b) ok dv dc
      have gl : Gd (.either a b) (led (.either a b) x c) := ⟨ol, small_mono (by decide) (by decide) (.either a b) _ sl⟩
      refine EvS.run G (es_ifF G (EvT.eq (evt_k0 G tv "pair") tq_either_pair) (es_ifF G (EvT.eq (evt_k0n G tv "either") tn_either_either) (es_set G (ev_call G (pre := preLed (n + 1)) (eva_cons G (ev_var G tv) (eva_two G (ev_var G ty) (ev_var G tz))) ⟨.either a b, x, c, ok, hd, h8, dv.gd, dc.gd (by decide) (by decide), rfl, rfl⟩) fun v1 H1 g1 t1 => ?_)))
      have U1 := g1.2.2 U
      refine es_retE G (eve_ifE G (Pd := fun d => ∃ e : Vl (Kd.either a b).D, d = enc (Kd.either a b).D e ∧ DC 2000000000000 12 (.either a b) e) (eve_call U1 (pre := prePull) (eva_one G (ev_int G)) ⟨2, by decide, by decide, rfl, rfl⟩) (ev_int G) (EvD.eve (ev_tup G (ds := [.str "right", enc (.either a b) (led (.either a b) x c)]) (eva_two G (ev_str G) (ev_var G t1)) (show 2 ≤ 1000 by decide)) ?_) (EvD.eve (ev_call G (pre := preLess (n + 1)) (eva_cons G (ev_var G (tv.mono (G.tk g1))) (eva_two G (ev_var G t1) (ev_var G (ty.mono (G.tk g1))))) ⟨.either a b, _, x, ok, hd, h8, gl, dv.gd, rfl, rfl⟩) ?_)) fun v3 d3 H3 g3 t3 ⟨e, ee, de⟩ => ?_
      · exact ⟨(.inr (led (.either a b) x c) : Sum (Sum (Vl a.D) (Vl b.D)) (Sum (Vl a) (Vl b))), rfl, ⟨ol, small_mono (by decide) (by decide) (.either a b) _ sl⟩⟩
      · exact ⟨_, rfl, ⟨okv_less (.either a b) ok _ x ol dv.ok, small_less (.either a b) _ x sl dv.sm⟩⟩
      · subst ee
        exact fin v3 e H3 (G.trans g1 g3) t3 de
end
end Cw
/-! part CwSh -/
set_option Elab.async false
set_option linter.all false
set_option maxRecDepth 100000
set_option maxHeartbeats 1000000
/-! Data that repr takes: their texts are short. -/
namespace Cw
open PySem PySem.Spec PyProof.Rows L2
theorem cod_len (d : PyData) : d.shown.length = (cod d).length := by
  unfold cod tl
  rw [Array.length_toList]
  rfl
theorem numT_len {n : Int} (h : n.natAbs ≤ 10 ^ 15) : (numT n).length ≤ 17 := by
  have key : ∀ m : Nat, m ≤ 10 ^ 15 → (Nat.toDigits 10 m).length ≤ 16 := fun m hm => (Nat.length_toDigits_le_iff (by decide) (by decide)).mpr (Nat.lt_of_le_of_lt hm (by decide))
  cases n with
  | ofNat m =>
    rw [show Int.ofNat m = (m : Int) from rfl, num_nat, List.length_map]
    have := key m h
    omega
  | negSucc m =>
    rw [num_neg, List.length_cons, List.length_map]
    have := key (m + 1) h
    omega
theorem jn_len : ∀ ls : List (List Nat), (jn ls).length ≤ (ls.map fun l => l.length + 2).sum
  | [] => Nat.zero_le _
  | [x] => by show x.length ≤ x.length + 2 + 0; omega
  | x :: y :: r => by
    have ih := jn_len (y :: r)
    show (x ++ 44 :: 32 :: jn (y :: r)).length ≤ x.length + 2 + ((y :: r).map fun l => l.length + 2).sum
    rw [List.length_append, List.length_cons, List.length_cons]
    omega
theorem sum_le {α : Type} (f : α → Nat) (b : Nat) : ∀ xs : List α, (∀ x ∈ xs, f x ≤ b) → (xs.map f).sum ≤ xs.length * b
  | [], _ => Nat.zero_le _
  | x :: xs, h => by
    have h1 := h x List.mem_cons_self
    have h2 := sum_le f b xs fun y hy => h y (List.mem_cons_of_mem _ hy)
    rw [List.map_cons, List.sum_cons, List.length_cons, Nat.succ_mul]
    omega
/-- how long a value's text may be -/
def Lb : Kd → Nat
  | .unit => 2
  | .num => 17
  | .pair a b => Lb a + Lb b + 12
  | .either a b => max (Lb a) (Lb b) + 11
  | .bag a => 30 * (Lb a + 23) + 3
theorem cod_pair : (cod (.str "pair")).length = 6 := by rw [cod_str]; decide +kernel
theorem cod_le : ∀ (k : Kd) (v : Vl k), Small (10 ^ 15) 30 k v → (cod (enc k v)).length ≤ Lb k
  | .unit, _, _ => by
    show (cod (.tuple [])).length ≤ 2
    rw [cod_tup]
    decide
  | .num, x, h => by
    show (cod (.int (toI x))).length ≤ 17
    rw [cod_int]
    exact numT_len h
  | .pair a b, x, h => by
    have h1 := cod_le a x.1 h.1
    have h2 := cod_le b x.2 h.2
    show (cod (.tuple [.str "pair", enc a x.1, enc b x.2])).length ≤ Lb a + Lb b + 12
    rw [cod_three]
    simp only [List.length_cons, List.length_append, List.length_nil]
    rw [cod_pair]
    omega
  | .either a b, .inl x, h => by
    have h1 := cod_le a x h
    show (cod (.tuple [.str "left", enc a x])).length ≤ max (Lb a) (Lb b) + 11
    rw [cod_two, cod_left]
    simp only [List.length_cons, List.length_append, List.length_nil]
    omega
  | .either a b, .inr x, h => by
    have h1 := cod_le b x h
    show (cod (.tuple [.str "right", enc b x])).length ≤ max (Lb a) (Lb b) + 11
    rw [cod_two, cod_right]
    simp only [List.length_cons, List.length_append, List.length_nil]
    omega
  | .bag a, x, h => by
    have hl : (show List (Vl a × Int) from x).length ≤ 30 := h.1
    show (cod (enc (.bag a) x)).length ≤ 30 * (Lb a + 23) + 3
    rw [show cod (enc (.bag a) x) = _ from cod_bag a x]
    have h1 := jn_len ((show List (Vl a × Int) from x).map fun p => cod (encP a p))
    rw [List.map_map] at h1
    have h2 := sum_le ((fun l : List Nat => l.length + 2) ∘ fun p => cod (encP a p)) (Lb a + 23) (show List (Vl a × Int) from x) fun p hp => by
      have h3 := cod_le a p.1 (h.2.2 p hp)
      have h4 := numT_len (n := p.2) (Nat.le_trans (wt_mem hp) h.2.1)
      show (cod (encP a p)).length + 2 ≤ Lb a + 23
      unfold encP
      rw [cod_two, cod_int]
      simp only [List.length_cons, List.length_append, List.length_nil]
      omega
    have h5 : (show List (Vl a × Int) from x).length * (Lb a + 23) ≤ 30 * (Lb a + 23) := Nat.mul_le_mul_right _ hl
    have h6 : (if (show List (Vl a × Int) from x).length = 1 then [44, 41] else [41] : List Nat).length ≤ 2 := by split <;> decide
    simp only [List.length_cons, List.length_append]
    have h7 := Nat.le_trans h1 (Nat.le_trans h2 h5)
    exact Nat.succ_le_succ (Nat.add_le_add h7 h6)
def pB : Nat → Nat
  | 0 => 17
  | n + 1 => 2 * pB n + 12
def bB : Nat → Nat
  | 0 => 17
  | n + 1 => max (2 * bB n + 12) (30 * (pB n + 23) + 3)
theorem pB_mono {n m : Nat} (h : n ≤ m) : pB n ≤ pB m := by
  induction h with
  | refl => exact Nat.le_refl _
  | step _ ih => exact Nat.le_trans ih (by show _ ≤ 2 * pB _ + 12; omega)
theorem bB_mono {n m : Nat} (h : n ≤ m) : bB n ≤ bB m := by
  induction h with
  | refl => exact Nat.le_refl _
  | step _ ih => exact Nat.le_trans ih (by show _ ≤ max (2 * bB _ + 12) _; omega)
theorem pB_17 (n : Nat) : 17 ≤ pB n := pB_mono (Nat.zero_le n)
theorem bB_17 (n : Nat) : 17 ≤ bB n := bB_mono (Nat.zero_le n)
theorem lb_plain : ∀ k : Kd, k.plain = true → Lb k ≤ pB k.dep
  | .unit, _ => by have := pB_17 1; show 2 ≤ pB 1; omega
  | .num, _ => pB_17 1
  | .pair a b, h => by
    obtain ⟨h1, h2⟩ := Bool.and_eq_true_iff.mp (show (a.plain && b.plain) = true from h)
    have i1 := Nat.le_trans (lb_plain a h1) (pB_mono (Nat.le_max_left a.dep b.dep))
    have i2 := Nat.le_trans (lb_plain b h2) (pB_mono (Nat.le_max_right a.dep b.dep))
    show Lb a + Lb b + 12 ≤ 2 * pB (max a.dep b.dep) + 12
    omega
  | .either a b, h => by
    obtain ⟨h1, h2⟩ := Bool.and_eq_true_iff.mp (show (a.plain && b.plain) = true from h)
    have i1 := Nat.le_trans (lb_plain a h1) (pB_mono (Nat.le_max_left a.dep b.dep))
    have i2 := Nat.le_trans (lb_plain b h2) (pB_mono (Nat.le_max_right a.dep b.dep))
    show max (Lb a) (Lb b) + 11 ≤ 2 * pB (max a.dep b.dep) + 12
    omega
  | .bag _, h => nomatch h
theorem lb_ok : ∀ k : Kd, k.ok = true → Lb k ≤ bB k.dep
  | .unit, _ => by have := bB_17 1; show 2 ≤ bB 1; omega
  | .num, _ => bB_17 1
  | .pair a b, h => by
    obtain ⟨h1, h2⟩ := Bool.and_eq_true_iff.mp (show (a.ok && b.ok) = true from h)
    have i1 := Nat.le_trans (lb_ok a h1) (bB_mono (Nat.le_max_left a.dep b.dep))
    have i2 := Nat.le_trans (lb_ok b h2) (bB_mono (Nat.le_max_right a.dep b.dep))
    show Lb a + Lb b + 12 ≤ max (2 * bB (max a.dep b.dep) + 12) _
    omega
  | .either a b, h => by
    obtain ⟨h1, h2⟩ := Bool.and_eq_true_iff.mp (show (a.ok && b.ok) = true from h)
    have i1 := Nat.le_trans (lb_ok a h1) (bB_mono (Nat.le_max_left a.dep b.dep))
    have i2 := Nat.le_trans (lb_ok b h2) (bB_mono (Nat.le_max_right a.dep b.dep))
    show max (Lb a) (Lb b) + 11 ≤ max (2 * bB (max a.dep b.dep) + 12) _
    omega
  | .bag a, h => by
    have i1 := lb_plain a h
    show 30 * (Lb a + 23) + 3 ≤ max _ (30 * (pB a.dep + 23) + 3)
    omega
theorem bB_8 : bB 8 ≤ 500000 := by decide +kernel
/-- what repr asks -/
structure Sho (d : PyData) : Prop where
  show_ : d.showable = true
  nod : d.hasDict = false
  dep : d.depth ≤ 40
  len : d.shown.length ≤ 3000000
theorem sw_cons (x : PyData) (xs : List PyData) : PyData.showableAll (x :: xs) = (x.showable && PyData.showableAll xs) := by rw [PyData.showableAll]
theorem sw_nil : PyData.showableAll [] = true := by rw [PyData.showableAll]
theorem sw_tup (xs : List PyData) : PyData.showable (.tuple xs) = PyData.showableAll xs := by rw [PyData.showable]
theorem sw_lst (xs : List PyData) : PyData.showable (.list xs) = PyData.showableAll xs := by rw [PyData.showable]
theorem sw_str (x : Str) : PyData.showable (.str x) = true := by rw [PyData.showable]
theorem sw_bl (b : Bool) : PyData.showable (.bool b) = true := by rw [PyData.showable]
theorem sw_int {i : Int} (h : i.natAbs ≤ 10 ^ 15) : PyData.showable (.int i) = true := by
  rw [PyData.showable]
  refine decide_eq_true ?_
  by_cases z : i.natAbs = 0
  · rw [z]; decide
  · have : i.natAbs.log2 < 60 := (Nat.log2_lt z).mpr (Nat.lt_of_le_of_lt h (by decide))
    omega
theorem hd_cons (x : PyData) (xs : List PyData) : PyData.hasDictAll (x :: xs) = (x.hasDict || PyData.hasDictAll xs) := by rw [PyData.hasDictAll]
theorem hd_nil : PyData.hasDictAll [] = false := by rw [PyData.hasDictAll]
theorem hd_tup (xs : List PyData) : PyData.hasDict (.tuple xs) = PyData.hasDictAll xs := by rw [PyData.hasDict]
theorem hd_lst (xs : List PyData) : PyData.hasDict (.list xs) = PyData.hasDictAll xs := by rw [PyData.hasDict]
theorem hd_str (x : Str) : PyData.hasDict (.str x) = false := by rw [PyData.hasDict]
theorem hd_bl (b : Bool) : PyData.hasDict (.bool b) = false := by rw [PyData.hasDict]
theorem hd_int (i : Int) : PyData.hasDict (.int i) = false := by rw [PyData.hasDict]
theorem sw_all {α : Type} (f : α → PyData) : ∀ xs : List α, (∀ x ∈ xs, (f x).showable = true) → PyData.showableAll (xs.map f) = true
  | [], _ => sw_nil
  | x :: xs, h => by
    show PyData.showableAll (f x :: xs.map f) = true
    rw [sw_cons, h x List.mem_cons_self, sw_all f xs fun y hy => h y (List.mem_cons_of_mem _ hy)]
    rfl
theorem hd_all {α : Type} (f : α → PyData) (h : ∀ x, (f x).hasDict = false) : ∀ xs : List α, PyData.hasDictAll (xs.map f) = false
  | [] => hd_nil
  | x :: xs => by
    show PyData.hasDictAll (f x :: xs.map f) = false
    rw [hd_cons, h, hd_all f h xs]
    rfl
theorem hd_enc : ∀ (k : Kd) (v : Vl k), (enc k v).hasDict = false
  | .unit, _ => by show PyData.hasDict (.tuple []) = false; rw [hd_tup, hd_nil]
  | .num, x => hd_int _
  | .pair a b, x => by show PyData.hasDict (.tuple [.str "pair", enc a x.1, enc b x.2]) = false; rw [hd_tup, hd_cons, hd_cons, hd_cons, hd_nil, hd_str, hd_enc a, hd_enc b]; rfl
  | .either a b, .inl x => by show PyData.hasDict (.tuple [.str "left", enc a x]) = false; rw [hd_tup, hd_cons, hd_cons, hd_nil, hd_str, hd_enc a]; rfl
  | .either a b, .inr x => by show PyData.hasDict (.tuple [.str "right", enc b x]) = false; rw [hd_tup, hd_cons, hd_cons, hd_nil, hd_str, hd_enc b]; rfl
  | .bag a, x => by
    show PyData.hasDict (.tuple (List.map (encP a) x)) = false
    rw [hd_tup]
    exact hd_all (encP a) (fun p => by unfold encP; rw [hd_tup, hd_cons, hd_cons, hd_nil, hd_int, hd_enc a]; rfl) x
theorem sw_enc : ∀ (k : Kd) (v : Vl k), Small (10 ^ 15) 30 k v → (enc k v).showable = true
  | .unit, _, _ => by show PyData.showable (.tuple []) = true; rw [sw_tup, sw_nil]
  | .num, x, h => sw_int h
  | .pair a b, x, h => by show PyData.showable (.tuple [.str "pair", enc a x.1, enc b x.2]) = true; rw [sw_tup, sw_cons, sw_cons, sw_cons, sw_nil, sw_str, sw_enc a _ h.1, sw_enc b _ h.2]; rfl
  | .either a b, .inl x, h => by show PyData.showable (.tuple [.str "left", enc a x]) = true; rw [sw_tup, sw_cons, sw_cons, sw_nil, sw_str, sw_enc a x h]; rfl
  | .either a b, .inr x, h => by show PyData.showable (.tuple [.str "right", enc b x]) = true; rw [sw_tup, sw_cons, sw_cons, sw_nil, sw_str, sw_enc b x h]; rfl
  | .bag a, x, h => by
    show PyData.showable (.tuple (List.map (encP a) x)) = true
    rw [sw_tup]
    exact sw_all (encP a) x fun p hp => by
      unfold encP
      rw [sw_tup, sw_cons, sw_cons, sw_nil, sw_enc a _ (h.2.2 p hp), sw_int (Nat.le_trans (wt_mem hp) h.2.1)]
      rfl
theorem sho_enc {k : Kd} {v : Vl k} (ok : k.ok = true) (dp : k.dep ≤ 8) (g : Gd k v) : Sho (enc k v) :=
  ⟨sw_enc k v g.sm, hd_enc k v, by have := dp_enc k v; omega, by
    rw [cod_len]
    have h1 := cod_le k v g.sm
    have h2 := lb_ok k ok
    have h3 := bB_mono dp
    have h4 := bB_8
    omega⟩
theorem sho_bl (b : Bool) : Sho (.bool b) := ⟨sw_bl b, hd_bl b, by rw [PyData.depth]; omega, by rw [PyData.shown]; cases b <;> decide +kernel⟩
theorem slen_app (x y : Str) : (x ++ y).length = x.length + y.length := by
  show (x.cps ++ y.cps).size = _
  rw [Array.size_append]
  rfl
theorem textFrom_up : ∀ (ts : List Str) (k : Nat) (acc : Str), (textFrom k acc ts).length ≤ acc.length + (ts.map fun t => t.length + 2).sum
  | [], k, acc => by show acc.length ≤ acc.length + 0; omega
  | t :: r, k, acc => by
    have ih := textFrom_up r (k + 1) (acc ++ (if k > 0 then ", " else "" : String) ++ t)
    show (textFrom (k + 1) (acc ++ (if k > 0 then ", " else "" : String) ++ t) r).length ≤ acc.length + (t.length + 2 + (r.map fun t => t.length + 2).sum)
    rw [slen_app, slen_app] at ih
    have hs : (Str.ofString (if k > 0 then ", " else "" : String)).length ≤ 2 := by split <;> decide +kernel
    have ih' : (textFrom (k + 1) (acc ++ (if k > 0 then ", " else "" : String) ++ t) r).length ≤ acc.length + (Str.ofString (if k > 0 then ", " else "" : String)).length + t.length + (r.map fun t => t.length + 2).sum := ih
    omega
/-- a short list of such data -/
theorem sho_list {xs : List PyData} (h : ∀ x ∈ xs, Sho x ∧ x.depth ≤ 30 ∧ x.shown.length ≤ 500000) (hl : xs.length ≤ 4) : Sho (.list xs) := by
  have e1 : ∀ ys : List PyData, (∀ x ∈ ys, x ∈ xs) → PyData.showableAll ys = true ∧ PyData.hasDictAll ys = false ∧ PyData.depthAll ys ≤ 30 ∧ ((ys.map PyData.shown).map fun t => t.length + 2).sum ≤ ys.length * 500002 := fun ys => by
    induction ys with
    | nil => exact fun _ => ⟨sw_nil, hd_nil, by rw [dp_nil]; omega, Nat.le_refl _⟩
    | cons y ys ih =>
      intro hy
      obtain ⟨a, b, c, d⟩ := ih fun x hx => hy x (List.mem_cons_of_mem _ hx)
      obtain ⟨s, s2, s3⟩ := h y (hy y List.mem_cons_self)
      refine ⟨by rw [sw_cons, s.show_, a]; rfl, by rw [hd_cons, s.nod, b]; rfl, by rw [dp_cons]; omega, ?_⟩
      rw [List.map_cons, List.map_cons, List.sum_cons, List.length_cons, Nat.succ_mul]
      omega
  obtain ⟨a, b, c, d⟩ := e1 xs fun _ h => h
  refine ⟨by rw [sw_lst]; exact a, by rw [hd_lst]; exact b, by rw [PyData.depth]; omega, ?_⟩
  rw [PyData.shown, shownAll_map]
  unfold listText
  rw [slen_app]
  have h1 := textFrom_up (xs.map PyData.shown) 0 "["
  have h2 : (Str.ofString "[").length = 1 := by decide +kernel
  have h3 : (Str.ofString "]").length = 1 := by decide +kernel
  have h5 : xs.length * 500002 ≤ 4 * 500002 := Nat.mul_le_mul_right _ hl
  rw [h3]
  rw [h2] at h1
  omega
theorem sho_enc2 {k : Kd} {v : Vl k} (ok : k.ok = true) (dp : k.dep ≤ 8) (g : Gd k v) : Sho (enc k v) ∧ (enc k v).depth ≤ 30 ∧ (enc k v).shown.length ≤ 500000 :=
  ⟨sho_enc ok dp g, by have := dp_enc k v; omega, by
    rw [cod_len]
    have h1 := cod_le k v g.sm
    have h2 := lb_ok k ok
    have h3 := bB_mono dp
    have h4 := bB_8
    omega⟩
theorem sho_bl2 (b : Bool) : Sho (.bool b) ∧ (PyData.bool b).depth ≤ 30 ∧ (PyData.bool b).shown.length ≤ 500000 := ⟨sho_bl b, by rw [PyData.depth]; omega, by rw [PyData.shown]; cases b <;> decide +kernel⟩
end Cw
/-! part CwG -/
set_option Elab.async false
set_option linter.all false
set_option maxRecDepth 100000
set_option maxHeartbeats 1000000
/-! repr, which asks that no guard stands; the defs that ask it; a call by keywords alone. -/
namespace Cw
open PySem PySem.Spec PyProof.Rows L2
/-- repr(x) -/
def rReprG (K : PySem.W.Frag) : List V → Hp → VK → Prop := fun vs H Q => ∃ (v : V) (d : PyData), vs = [v] ∧ Dp K H v d ∧ Sho d ∧ Q (.str d.shown) H
theorem cr_reprG {X : Cx} (hG : X.A.guards = some []) (hu : X.A.units + 64 < cLine) : CallR X (.builtin "repr") (rReprG X.K) := by
  intro pins s σ H vs us Q I r h
  obtain ⟨v, d, rfl, dp, sh, q⟩ := h
  obtain ⟨u, rfl, ru⟩ := vals1 r
  obtain ⟨as, rd⟩ := Dp.reads I d v u dp ru
  have big : ∀ a, u = .ref a → wpAny (model X.prog X.w) X.A (call (.builtin "repr") [u]) (EP X pins σ Q) X.xe s := fun a e => by
    subst e
    exact repr_of_reads' rd sh.show_ (PyData.noDict_hsm sh.nod) hG (by have := sh.dep; omega) (fun _ _ e => e) (fun h' t tk hk => ⟨.str d.shown, H, I.kept hk, ⟨t, rfl⟩, q⟩) (by have := sh.len; rw [sizeLine_eq]; omega)
  cases dp with
  | non =>
    cases (show u = Value.none from ru)
    have e : PyData.none.shown = "None" := by rw [PyData.shown]
    rw [e] at q
    exact P.repr_of_none ⟨.str _, H, I.tok _, ⟨_, rfl⟩, q⟩
  | bl b =>
    cases (show u = Value.bool b from ru)
    have e : (PyData.bool b).shown = if b = true then Str.ofString "True" else Str.ofString "False" := by rw [PyData.shown]
    rw [e] at q
    exact P.repr_of_bool ⟨.str _, H, I.tok _, ⟨_, rfl⟩, q⟩
  | int i =>
    obtain ⟨t, rfl⟩ := (show ∃ t, u = Value.int i t from ru)
    have e : (PyData.int i).shown = Str.ofString (toString i) := by rw [PyData.shown]
    have hs := sh.show_
    rw [PyData.showable] at hs
    rw [e] at q
    exact P.repr_of_int (of_decide_eq_true hs) ⟨.str _, H, I.tok _, ⟨_, rfl⟩, q⟩
  | str x =>
    obtain ⟨t, rfl⟩ := (show ∃ t, u = Value.str x t from ru)
    have e : (PyData.str x).shown = reprText x := by rw [PyData.shown]
    have hl := sh.len
    rw [e] at q hl
    exact P.repr_of_str ⟨.str _, H, I.tok _, ⟨_, rfl⟩, q⟩ (by rw [sizeLine_eq]; omega)
  | lst _ _ => exact big _ ru
  | tup _ _ => exact big _ ru
/-! ### defs that are called where no guard stands -/
structure FnG (P : Program) (w : World) (K : PySem.W.Frag) (mg : Str → Option Value) (base : Heap) (k : Nat) (f : Addr) (fd : FuncData) (ps : List Str) (sp : Sp) : Prop where
  len : ∀ vs H Q E, sp vs H Q E → vs.length = ps.length
  go : ∀ (A : Around) (out : List Env) (s : Shared) (H : Hp) (args : Args) (us : List Value) (vs : List V) (Q : VK) (E : XK), Room k A → A.guards = some [] → Env0 P w K mg base A out s H → BindsTo s fd args (ps.zip us) → Vals vs us → sp vs H Q E →
    codeAny (model P w) A (.call (.ref f) args) (CR CX0 out P w H s Q E) s
theorem fng_of {P : Program} {w : World} {K : PySem.W.Frag} {mg : Str → Option Value} {base : Heap} {k : Nat} {f : Addr} {name qual : Str} {params : Arguments} {body : List Stmt} {scope : Scope} {dV kV doc pm cdv ct oc : Value} {an od : Option Addr}
    {osl : Array (Option Value)} {N ps : List Str} {sp : Sp} (lk : K.lookup f = some ⟨oc, od, .func (PySem.W.fnOf name qual params body scope dV kV doc pm an cdv ct), osl⟩) (code : PySem.W.codeIn K cdv qual = true) (S : FnScope N ps scope) (len : ∀ vs H Q E, sp vs H Q E → vs.length = ps.length)
    (walk : ∀ (A : Around) (out : List Env) (s : Shared) (H : Hp) (vs : List V) (Q : VK) (E : XK), Room k (A.deeper (envOfC qual scope s.heap.objs.size f cdv)) → A.guards = some [] → sp vs H Q E →
      ∃ t, PSs (cxOf CX0 P w K mg base N qual scope f cdv A out s H E) body t ∧ t { nx := fun _ H' => Q .non H', rt := Q } (start N vs) H) :
    FnG P w K mg base (k + 1) f (PySem.W.fnOf name qual params body scope dV kV doc pm an cdv ct) ps sp := by
  refine ⟨len, fun A out s H args us vs Q E room gd env bound rel want => ?_⟩
  have kin : K.In s.heap := env.mod.kin.keeps fun b o q => (env.bs b o q).1
  have kinds : ∀ y ∈ ps.zip us, scope.names.lookup y.1 = some .local ∨ (scope.names.lookup y.1 = some .cell ∧ ((cellsFrom (s.heap.objs.size + 1) scope.names []).lookup y.1).isSome = true) := by
    rintro ⟨x, u⟩ hy
    have par := S.par x (List.of_mem_zip hy).1
    exact par.imp id fun c => ⟨c, PySem.W.cellsFrom_some _ _ _ (.inl c)⟩
  refine codeAny_call_function room.depth (kin f _ lk) rfl S.co S.gen rfl (PySem.W.codeRec_of kin code) (bound _ _ _ _ ?_)
  refine wpAny_newFunctionEnv_cells S.kind kinds fun fr hfr s1 began => ?_
  subst hfr
  obtain ⟨t, rule, reading⟩ := walk A out s H vs Q E (room.deeper _) gd want
  have inv := inv_start (CX := CX0) (P := P) (w := w) (K := K) (mg := mg) (base := base) (E := E) S room.hd env (len _ _ _ _ want) rel began
  have lim : s1.heap.NoLimit := (env.mod.nolimit.keeps fun b o q => (env.bs b o q).1).keeps began.toInCall.keep
  refine ⟨lim, codeAny_func (wpAny_mono (rule.run [] s1 (start N vs) H _ inv reading) (fun fl s2 done => ?_) fun e s2 bad => bad)⟩
  cases fl with
  | ret u =>
    obtain ⟨v, σ2, H2, J, ru, hq⟩ := done
    exact ⟨v, H2, J.os, J.bare, J.base, J.hok, ru, hq⟩
  | next =>
    obtain ⟨σ2, H2, J, hq⟩ := done
    exact ⟨V.non, H2, J.os, J.bare, J.base, J.hok, rfl, hq⟩
  | brk => exact False.elim (done.elim fun _ z => z.elim fun _ z => z.2)
  | cont => exact False.elim (done.elim fun _ z => z.elim fun _ z => z.2)
structure OkG (P : Program) (w : World) (K : PySem.W.Frag) (mg : Str → Option Value) (base : Heap) (x : Str) (ps : List Str) (k : Nat) (sp : Sp) : Prop where
  ex : ∃ fd, FnG P w K mg base k (He.ga K x) fd ps sp ∧ Binds K fd ps [] ∧ PySem.W.keepIn K (.ref (He.ga K x)) = true ∧ LkF K x fd
  gl : mg x = some (.ref (He.ga K x))
theorem FX.okG {P : Program} {w : World} {K : PySem.W.Frag} {mg : Str → Option Value} {base : Heap} {x : Str} {st : Stmt} {N ps : List Str} {k : Nat} {sp : Sp} (F : FX K mg x st []) (S : FnScope N ps (defScope st)) (len : ∀ vs H Q E, sp vs H Q E → vs.length = ps.length)
    (hb : ∀ (kV doc pm : Value) (an : Option Addr) (cdv ct : Value) (us : List Value), us.length = ps.length → bindArgs (PySem.W.fnOf x x (defArgs st) (defBody st) (defScope st) .none kV doc pm an cdv ct) ⟨us, []⟩ = pure (ps.zip us))
    (body : ∀ (f : Addr) (cdv : Value) (A : Around) (outer : List Env) (s : Shared) (H : Hp) (vs : List V) (Q : VK) (E : XK), Room k (A.deeper (envOfC x (defScope st) s.heap.objs.size f cdv)) → A.guards = some [] → sp vs H Q E →
      ∃ t, PSs (cxOf CX0 P w K mg base N x (defScope st) f cdv A outer s H E).nox (defBody st) t ∧ t { nx := fun _ H' => Q .non H', rt := Q } (start N vs) H) : OkG P w K mg base x ps (k + 1) sp := by
  obtain ⟨fd, F1⟩ := F.ex
  have bd := F1.bindsN hb
  have lf := lkf_of F1
  obtain ⟨oc, od, dV, kV, doc, pm, an, cdv, ct, osl, rfl, lk, hcd, hD, hK⟩ := F1.ex
  refine ⟨⟨_, fng_of lk hcd S len fun A out s H vs Q E hr hg h => ?_, bd, F1.kp, lf⟩, F.gl⟩
  obtain ⟨t, h1, h2⟩ := body (He.ga K x) cdv A out s H vs Q E hr hg h
  exact ⟨t, h1.nox, h2⟩
theorem pe_callG {X : Cx} {x : Str} {ps : List Str} {j k : Nat} {sp : Sp} {p pos : Pos} {e : Expr} {es : List Expr} {t : TA} (O : OkG X.prog X.w X.K X.mg X.base x ps j sp) (hr : Room k X.A) (hG : X.A.guards = some []) (ha : PA X (e :: es) t) (hjk : j ≤ k := by omega) (hg : Gl X x := by rfl)
    (hdb : (x == ("__debug__" : Str)) = false := by decide +kernel) (he : starEach (e :: es) X.env = (false, eval e X.env) :: starEach es X.env := by rfl) (hpl : (backTo pos (starEach es X.env)).any (·.1) = false := by rfl) :
    PE X (.Call (.Name x p) (e :: es) [] pos) (tCall sp [] E0 t) := by
  obtain ⟨fd, F, b, kp, _⟩ := O.ex
  refine ⟨fun pins s σ H Q I h => wpAny_Call_Name_kw (ld_glob I hg O.gl ?_ hdb)⟩
  refine PySem.W.callWith_K (h₀ := X.base) I.ok.mod.kin kp (thn (ha.run pos pins s σ H _ I h) fun us s1 ⟨vs, H1, I1, r, q⟩ => ⟨I1.kIn, ?_⟩) he hpl
  have q' : sp vs H1 Q E0 := by
    have z : sp (vs ++ []) H1 Q E0 := q
    rw [List.append_nil] at z
    exact z
  have hl : us.length = ps.length := r.length.symm.trans (F.len _ _ _ _ q')
  have bnd := b s1 us I1.kIn (by rw [List.append_nil]; exact hl)
  rw [List.append_nil] at bnd
  refine wpAny_call (codeAny_mono (F.go X.A X.stack s1 H1 ⟨us, []⟩ us vs Q E0 (hr.mono hjk) hG I1.env0 bnd r q') fun res s2 hq => ?_)
  cases res with
  | error e => exact hq.elim
  | ok fl =>
    cases fl with
    | ret u => exact I1.after hq
    | _ => exact hq.elim
/-! ### f(k = v, ..), every argument by its name, in the opposite order of the parameters -/
def tCallW (n : Nat) (sp : Sp) (tk : TA) : TE := fun σ H Q => tk σ H fun zs H1 => zs.length = n ∧ sp zs.reverse H1 Q E0
theorem pe_callW {X : Cx} {x : Str} {st : Stmt} {ps ks : List Str} {j k : Nat} {sp : Sp} {p pos : Pos} {kws : List Keyword} {tk : TA} (O : OkF X.prog X.w X.K X.mg X.base x ps j sp) (F0 : FX X.K X.mg x st []) (hr : Room k X.A) (hkw : PK X kws tk)
    (hks : (backToKw pos (keywordEach kws X.env)).filterMap (·.1) = ks)
    (hb : ∀ (kV doc pm : Value) (an : Option Addr) (cdv ct : Value) (ws : List Value), ws.length = ks.length → bindArgs (PySem.W.fnOf x x (defArgs st) (defBody st) (defScope st) .none kV doc pm an cdv ct) ⟨[], ks.zip ws⟩ = pure (ps.zip ws.reverse))
    (hjk : j ≤ k := by omega) (hg : Gl X x := by rfl) (hall : (backToKw pos (keywordEach kws X.env)).all (·.1.isSome) = true := by rfl) (hdb : (x == ("__debug__" : Str)) = false := by decide +kernel)
    (hpl : ((backTo pos (starEach [] X.env)).any (·.1) || (backToKw pos (keywordEach kws X.env)).any (·.1.isNone)) = false := by rfl) :
    PE X (.Call (.Name x p) [] kws pos) (tCallW ks.length sp tk) := by
  obtain ⟨fd, F, b, kp, oc, od, osl, lk⟩ := O.ex
  obtain ⟨fd0, F1⟩ := F0.ex
  have bw : ∀ (s : Shared) (ws : List Value), ws.length = ks.length → BindsTo s fd ⟨[], ks.zip ws⟩ (ps.zip ws.reverse) := by
    obtain ⟨oc', od', dV, kV, doc, pm, an, cdv, ct, osl', rfl, lk', hcd, hD, hK⟩ := F1.ex
    rw [lk] at lk'
    cases lk'
    rcases hD with ⟨_, rfl⟩ | ⟨e, _⟩
    · exact fun s ws hl => .of_eq (hb kV doc pm an cdv ct ws hl)
    · exact absurd rfl e
  refine ⟨fun pins s σ H Q I h => wpAny_Call_Name_kw (ld_glob I hg O.gl ?_ hdb)⟩
  refine PySem.W.callWith_KW0 (h₀ := X.base) I.ok.mod.kin kp hall (thn (hkw.run pos pins s σ H _ I h) fun ws s1 ⟨zs, H1, I1, r, l, q⟩ => ⟨I1.kIn, ?_⟩) hpl
  rw [hks]
  refine wpAny_call (codeAny_mono (F.run X.A X.stack s1 H1 ⟨[], ks.zip ws⟩ ws.reverse zs.reverse Q E0 (hr.mono hjk) I1.env0 (bw s1 ws (r.length.symm.trans l)) r.reverse q) fun res s2 hq => ?_)
  cases res with
  | error e => exact hq.elim
  | ok fl =>
    cases fl with
    | ret u => exact I1.after hq
    | _ => exact hq.elim
end Cw
/-! part CwL1 -/
set_option Elab.async false
set_option linter.all false
set_option maxRecDepth 100000
set_option maxHeartbeats 1000000
/-! _law_is, _law_urn. -/
namespace Cw
open PySem PySem.Spec PyProof.Rows L2
section
variable {P : Program} {w : World} {K : PySem.W.Frag} {mg : Str → Option Value} {base : Heap}
def spIs (K : PySem.W.Frag) : Sp := fun vs H Q _ => ∃ (v v' : V) (d e : PyData), vs = [v, v'] ∧ Dp K H v d ∧ Dp K H v' e ∧ Sho d ∧ Sho e ∧ Q (.bl (decide (d.shown = e.shown))) H
theorem sc_law_is : FnScope ["_law_told", "_law_due"] ["_law_told", "_law_due"] (defScope s_law_is) := ⟨rfl, rfl, rfl, by decide +kernel, rfl, by decide +kernel, by decide +kernel⟩
theorem ok_law_is (Z : Fs w K mg) : OkG P w K mg base "_law_is" ["_law_told", "_law_due"] 1 (spIs K) := by
  have sc := sc_law_is
  refine Z.f_law_is.okG sc (fun vs H Q E ⟨_, _, _, _, e, _⟩ => by rw [e]; rfl) (fun _ _ _ _ _ _ us hl => match us, hl with | [_, _], _ => rfl) fun f cdv A outer s H vs Q E hr hG h => ?_
  refine ⟨_, (pss_one (ps_ret (pe_cmpR op_eq (pe_callB (cr_reprG hG hr.units) rfl Z.zrepr boot_repr (pa_cons (pv 0) pa_nil)) (pe_callB (cr_reprG hG hr.units) rfl Z.zrepr boot_repr (pa_cons (pv 1) pa_nil)) (nomark _)))), ?_⟩
  obtain ⟨v, v', d, e, rfl, td, te, sd, se, q⟩ := h
  refine ⟨v, rfl, v, d, rfl, td, sd, v', rfl, v', e, rfl, te, se, rfl, ?_⟩
  have x : decide (V.str d.shown = V.str e.shown) = decide (d.shown = e.shown) := decide_eq_decide.mpr ⟨fun h => V.str.inj h, fun h => by rw [h]⟩
  rw [x]
  exact q
def spUrn (K : PySem.W.Frag) : Sp := fun vs H Q _ => ∃ (a : Addr) (ns : List Int) (t : Nat), vs = [.ref a, .int (t : Int)] ∧ t < 3 ∧ SqL K H a (ns.map V.int) ∧ ∀ u H', Same H H' → Urn H' u → H u = none → Q (.ref u) H'
theorem sc_law_urn : FnScope ["_law_script", "_law_turn", "_law_own", "_law_seed", "_law_cell"] ["_law_script", "_law_turn"] (defScope s_law_urn) := ⟨rfl, rfl, rfl, by decide +kernel, rfl, by decide +kernel, by decide +kernel⟩
theorem ok_law_urn (Z : Fs w K mg) : OkF P w K mg base "_law_urn" ["_law_script", "_law_turn"] 1 (spUrn K) := by
  have sc := sc_law_urn
  refine Z.f_law_urn.ok sc (fun vs H Q E ⟨_, _, _, e, _⟩ => by rw [e]; rfl) (fun _ _ _ _ _ _ us hl => match us, hl with | [_, _], _ => rfl) fun f cdv A outer s H vs Q E hr h => ?_
  refine ⟨_, (pss_cons (ps_set (i := 2) sc.nd rfl (by first | exact Or.inl rfl | exact Or.inr rfl) (pe_ifExp (pt_cmpR op_lt (pv 1) (pe_callB call_len rfl Z.zlen PySem.boot_len (pa_cons (pv 0) pa_nil)) (nomark _)) (pe_callTy call_int1 rfl Z.zint boot_int (pa_cons (pe_ix ix_list (pv 0) (pv 1) (fun _ _ => rfl)) pa_nil)) pe_int)) (pss_cons (ps_set (i := 3) sc.nd rfl (by first | exact Or.inl rfl | exact Or.inr rfl) (pe_op op_add pe_int (pe_op op_mul pe_int (pv 1)))) (pss_cons (ps_for PassesOwn.never rfl (pi_list (pe_slice sl_list (pv 0) po_none (po_some pe_int))) (pg_name sc.nd (i := 4) rfl (by first | exact Or.inl rfl | exact Or.inr rfl)) (pss_one (ps_set (i := 3) sc.nd rfl (by first | exact Or.inl rfl | exact Or.inr rfl) (pe_op op_mod (pe_callTy call_int1 rfl Z.zint boot_int (pa_cons (pe_op op_add (pe_op op_add (pe_op op_mul (pv 3) pe_int) (pe_op op_mod (pe_callTy call_int1 rfl Z.zint boot_int (pa_cons (pv 4) pa_nil)) pe_int)) pe_int) pa_nil)) pe_int)))) (pss_cons (ps_set (i := 3) sc.nd rfl (by first | exact Or.inl rfl | exact Or.inr rfl) (pe_op op_mod (pe_callTy call_int1 rfl Z.zint boot_int (pa_cons (pe_op op_add (pe_op op_add (pe_op op_mul (pv 3) pe_int) (pe_op op_mul (pe_op op_mod (pe_callTy call_int1 rfl Z.zint boot_int (pa_cons (pv 2) pa_nil)) pe_int) pe_int)) pe_int) pa_nil)) pe_int)) (pss_one (ps_ret (pe_lst (pa_cons (pe_ifExp (PW.pt (pw_or (pt_cmpR op_lt (pv 2) pe_int (nomark _)) (pw_or1 (pt_cmpR op_ge (pv 2) (pe_op op_pow pe_int pe_int) (nomark _))))) (pe_callB call_abs rfl Z.zabs boot_abs (pa_cons (pv 2) pa_nil)) pe_int) (pa_cons (pv 3) (pa_cons pe_int pa_nil)))))))))), ?_⟩
  obtain ⟨a, ns, t, rfl, ht, hq, q⟩ := h
  have G := growS
  have sqm : ∀ {H1 : Hp}, Same H H1 → SqL K H1 a (ns.map V.int) := fun g => hq.imp (rd_same g) id
  have hown : ∀ {tl tx : TE}, EvD Same tl (L2.start ["_law_script", "_law_turn", "_law_own", "_law_seed", "_law_cell"] [V.ref a, V.int (t : Int)]) H (.int (ns.length : Int)) →
      (∀ n, ns[t]? = some n → EvD Same tx (L2.start ["_law_script", "_law_turn", "_law_own", "_law_seed", "_law_cell"] [V.ref a, V.int (t : Int)]) H (.int n)) →
      ∃ o : Int, EvD Same (tIf (tTest (tOp (rI0 fun i j => V.bl (decide (i < j))) (tVar 1) tl)) (tCB (fun xs H Q => (∃ i, xs = [V.int i] ∧ Q (V.int i) H) ∨ ∃ k, xs = [V.bl k] ∧ Q (V.int (if k = true then 1 else 0)) H) (tCons tx tNil)) (tC (.int 0))) (L2.start ["_law_script", "_law_turn", "_law_own", "_law_seed", "_law_cell"] [V.ref a, V.int (t : Int)]) H (.int o) := fun {tl tx} hl hx => by
    by_cases lt : t < ns.length
    · exact ⟨ns[t], ev_ifT G (EvT.eq (evt_ltI G (ev_var G (.int (t : Int))) hl) (decide_eq_true (by omega))) (ev_int1 (hx _ (List.getElem?_eq_getElem lt)))⟩
    · exact ⟨0, ev_ifF G (EvT.eq (evt_ltI G (ev_var G (.int (t : Int))) hl) (decide_eq_false (by omega))) (ev_int G)⟩
  obtain ⟨o, ho⟩ := hown (tl := tCB (fun xs H_1 Q => ∃ x n, xs = [x] ∧ LenV K x H_1 n ∧ Q (V.int ↑n) H_1) (tCons (tVar 0) tNil)) (tx := tOp (rIxL K) (tVar 0) (tVar 1))
    (fun H1 g Q q => ⟨.ref a, rfl, .ref a, ns.length, rfl, .inl ⟨_, sqm g, by rw [List.length_map]⟩, q _ H1 (G.refl H1) (.int _)⟩)
    (fun n hn H1 g Q q => ⟨.ref a, rfl, .int (t : Int), rfl, a, _, (t : Int), .int n, rfl, rfl, sqm g, atI_nat (by rw [List.getElem?_map, hn]; rfl), q _ H1 (G.refl H1) (.int n)⟩)
  refine q_set G ho fun v1 H1 g1 t1 => ?_
  obtain rfl := t1.int_of
  refine q_set G (ev_add G (ev_int G) (ev_mul G (.inr (by omega)) (ev_int G) (ev_var G (.int (t : Int))))) fun v2 H2 g2 t2 => ?_
  obtain rfl := t2.int_of
  have g02 := g1.trans g2
  refine ⟨.ref a, rfl, 11, rfl, a, _, rfl, sqm g02, fun p hp => ⟨p, rfl, ⟨_, .inl (.inl upd_same)⟩, ?_⟩⟩
  have g0p : Same H (upd H2 p (.lst (cutV (ns.map V.int) none (some 11)))) := g02.trans (same_new hp _)
  have ec : ∃ ms : List Int, cutV (ns.map V.int) none (some 11) = ms.map V.int := ⟨_, by rw [cutV, ← List.map_drop, ← List.map_take]⟩
  obtain ⟨ms, ec⟩ := ec
  rw [ec] at g0p ⊢
  refine for_list (xs := ms.map V.int) (fun i σ' Hc => (∃ (s : Int) (x : Option V), σ' = [some (.ref a), some (.int (t : Int)), some (.int o), some (.int s), x]) ∧ Same (upd H2 p (.lst (ms.map V.int))) Hc) ⟨⟨_, _, rfl⟩, Same.refl _⟩ (fun i σ' Hc _ hp => .inl (.inl (hp.2 _ _ upd_same))) (fun i x σ' Hc hx hpv => ?_) fun σ' Hc hpv => ?_
  · obtain ⟨⟨s0, x0, rfl⟩, gc⟩ := hpv
    rw [List.getElem?_map] at hx
    obtain ⟨n, hn, rfl⟩ := Option.map_eq_some_iff.mp hx
    exact s_set G (ev_mod G (by decide) (ev_int1 (ev_add G (ev_add G (ev_mul G (cmulR (by decide)) (ev_var G (.int s0)) (ev_int G)) (ev_mod G (by decide) (ev_int1 (ev_var G (.int n))) (ev_int G))) (ev_int G))) (ev_int G)) fun v3 H3 g3 t3 => by
      obtain rfl := t3.int_of
      exact ⟨⟨_, _, rfl⟩, gc.trans g3⟩
  · obtain ⟨⟨s0, x0, rfl⟩, gc⟩ := hpv
    refine q_set G (ev_mod G (by decide) (ev_int1 (ev_add G (ev_add G (ev_mul G (cmulR (by decide)) (ev_var G (.int s0)) (ev_int G)) (ev_mul G (cmulR (by decide)) (ev_mod G (by decide) (ev_int1 (ev_var G (.int o))) (ev_int G)) (ev_int G))) (ev_int G))) (ev_int G)) fun v3 H3 g3 t3 => ?_
    obtain rfl := t3.int_of
    have g03 := g0p.trans (gc.trans g3)
    have last : ∀ (n : Int) H4, 0 ≤ n → Same H3 H4 → ∀ m : Int, (([V.int n, V.int m, V.int 0] : List V).length ≤ sizeLine ∧ ∀ p, H4 p = none → Q (.ref p) (upd H4 p (.lst [V.int n, V.int m, V.int 0]))) := fun n H4 h0 g4 m => ⟨by rw [sizeLine_eq]; show 3 ≤ 16777216; decide, fun p hp => by
      have gg := (g03.trans g4)
      refine q p _ (gg.trans (same_new hp _)) ⟨n, m, 0, upd_same, h0⟩ ?_
      cases e2 : H p with
      | none => rfl
      | some u => rw [gg _ _ e2] at hp; cases hp⟩
    have hif : ∃ n : Int, 0 ≤ n ∧ EvD Same (tIf (tOr (tTest (tOp (rI0 fun i j => V.bl (decide (i < j))) (tVar 2) (tC (V.int 0)))) (tTest (tOp (rI0 fun i j => V.bl (decide (j ≤ i))) (tVar 2) (tOp (rI CPow fun i j => V.int (i ^ j.toNat)) (tC (V.int 10)) (tC (V.int 16))))))
        (tCB (fun xs H Q => ∃ i, xs = [V.int i] ∧ Q (V.int (if i < 0 then -i else i)) H) (tCons (tVar 2) tNil)) (tC (V.int 0))) [some (.ref a), some (.int (t : Int)), some (.int o), some (.int ((s0 * 59 + o % 2147483417 * 30011 + 3) % 2147483563)), x0] H3 (.int n) := by
      have hc : CPow 10 16 := ⟨by decide, by decide, by decide⟩
      have ht := evt_or G (evt_ltI (H := H3) G (ev_var G (σ := [some (.ref a), some (.int (t : Int)), some (.int o), some (.int ((s0 * 59 + o % 2147483417 * 30011 + 3) % 2147483563)), x0]) (i := 2) (.int o)) (ev_int G (i := 0))) fun _ => evt_test (evb_intop (g := fun i j => decide (j ≤ i)) G (ev_var G (i := 2) (.int o)) (ev_pow G hc (ev_int G) (ev_int G)))
      generalize (decide (o < 0) || decide (10 ^ (16 : Int).toNat ≤ o)) = b at ht
      cases b with
      | true => exact ⟨if o < 0 then -o else o, by split <;> omega, ev_ifT G ht fun H1 g Q q => ⟨_, rfl, o, rfl, q _ H1 (G.refl H1) (.int _)⟩⟩
      | false => exact ⟨0, Int.le_refl _, ev_ifF G ht (ev_int G)⟩
    obtain ⟨n, h0, hn⟩ := hif
    refine hn H3 (G.refl H3) _ fun v4 H4 g4 t4 => ?_
    obtain rfl := t4.int_of
    exact ⟨_, rfl, last n H4 h0 g4 _⟩
end
end Cw
/-! part CwL2 -/
set_option Elab.async false
set_option linter.all false
set_option maxRecDepth 100000
set_option maxHeartbeats 2000000
/-! _law_right. -/
namespace Cw
open PySem PySem.Spec PyProof.Rows L2
section
variable {P : Program} {w : World} {K : PySem.W.Frag} {mg : Str → Option Value} {base : Heap}
end
section
variable {u : Addr} {K : PySem.W.Frag} {σ : L2.St} {H : Hp} {te ta tb tc tf : TE} {tr : TA} {d e : PyData} {ds : List PyData} {tz : TS} {D : Ends}
/-- v stands for d as long as nothing but the urn is changed -/
def Kp (u : Addr) (K : PySem.W.Frag) (H : Hp) (v : V) (d : PyData) : Prop := ∀ H', RU u H H' → Dp K H' v d
def EvX (u : Addr) (K : PySem.W.Frag) (te : TE) (σ : L2.St) (H : Hp) (d : PyData) : Prop := ∀ H1, RU u H H1 → ∀ Q : VK, (∀ v H2, RU u H1 H2 → Kp u K H2 v d → Q v H2) → te σ H1 Q
def EvAX (u : Addr) (K : PySem.W.Frag) (tr : TA) (σ : L2.St) (H : Hp) (ds : List PyData) : Prop := ∀ H1, RU u H H1 → ∀ Q : List V → Hp → Prop, (∀ vs H2, RU u H1 H2 → (∀ H', RU u H2 H' → DpAll K H' vs ds) → vs.length = ds.length → Q vs H2) → tr σ H1 Q
theorem evx_d (h : EvD (RU u) te σ H d) : EvX u K te σ H d := fun H1 g Q q => h H1 g _ fun v H2 g2 t => q v H2 g2 fun H' g3 => (t.mono g3.2.1).dp
theorem evx_b {b : Bool} (h : EvB (RU u) te σ H b) : EvX u K te σ H (.bool b) := fun H1 g Q q => h H1 g _ fun H2 g2 => q _ H2 g2 fun _ _ => .bl b
theorem evx_var {i : Nat} {v : V} (h : Kp u K H v d) (hs : σ[i]? = some (some v) := by rfl) : EvX u K (tVar i) σ H d := fun H1 g Q q => ⟨v, hs, q v H1 ((growU u).refl _) fun H' g3 => h H' ((growU u).trans g g3)⟩
theorem eax_nil : EvAX u K tNil σ H [] := fun H1 g Q q => q [] H1 ((growU u).refl _) (fun _ _ => .nil) rfl
theorem eax_cons (h : EvX u K te σ H d) (hr : EvAX u K tr σ H ds) : EvAX u K (tCons te tr) σ H (d :: ds) := fun H1 g Q q =>
  h H1 g _ fun v H2 g2 t => hr H2 ((growU u).trans g g2) _ fun vs H3 g3 ts l => q (v :: vs) H3 ((growU u).trans g2 g3) (fun H' g4 => .cons (t H' ((growU u).trans g3 g4)) (ts H' g4)) (by rw [List.length_cons, List.length_cons, l])
theorem evx_lst (U : Urn H u) (h : EvAX u K tr σ H ds) (hl : ds.length ≤ 1000) : EvX u K (tLst tr) σ H (.list ds) := fun H1 g Q q =>
  h H1 g _ fun vs H2 g2 t l => ⟨by rw [l, sizeLine_eq]; omega, fun p hp => by
    have ne := urn_ne (g2.2.2 (g.2.2 U)) hp
    have s := (growU u).same (same_new hp (.lst vs))
    exact q (.ref p) _ ((growU u).trans g2 s) fun H' g3 => .lst (.inl (.inl (g3.1 p _ ne upd_same))) (t H' ((growU u).trans s g3))⟩
theorem evb_is (h1 : EvX u K ta σ H d) (h2 : EvX u K tb σ H e) (sd : Sho d) (se : Sho e) : EvB (RU u) (tCall (spIs K) [] E0 (tCons ta (tCons tb tNil))) σ H (decide (d.shown = e.shown)) := fun H1 g Q q =>
  h1 H1 g _ fun v H2 g2 t1 => h2 H2 ((growU u).trans g g2) _ fun x H3 g3 t2 => ⟨v, x, d, e, rfl, t1 H3 g3, t2 H3 ((growU u).refl _), sd, se, q H3 ((growU u).trans g2 g3)⟩
theorem evb_isT (h1 : EvX u K ta σ H d) (h2 : EvX u K tb σ H d) (sd : Sho d) : EvB (RU u) (tCall (spIs K) [] E0 (tCons ta (tCons tb tNil))) σ H true := (evb_is h1 h2 sd sd).eq (decide_eq_true rfl)
theorem es_setX {i : Nat} (h : EvX u K te σ H d) (k : ∀ v H1, RU u H H1 → Kp u K H1 v d → EvS (RU u) tz D (σ.set i (some v)) H1) : EvS (RU u) (tSeq (tAsg te (gName i)) tz) D σ H := fun H1 g => h H1 g _ fun v H2 g2 t => k v H2 ((growU u).trans g g2) t H2 ((growU u).refl _)
theorem es_setI {i : Nat} {Ps : List PyData → Prop} (U : Urn H u) (h : EvAE (RU u) tr σ H Ps) (hl : ∀ l, Ps l → l.length ≤ 1000) (k : ∀ p vs ds H1, RU u H H1 → (∀ H', RU u H1 H' → H' p = some (.lst vs)) → TpAll H1 vs ds → Ps ds → EvS (RU u) tz D (σ.set i (some (.ref p))) H1) :
    EvS (RU u) (tSeq (tAsg (tLst tr) (gName i)) tz) D σ H := fun H1 g => h H1 g _ fun vs ds H2 g2 t ps => ⟨by rw [t.len, sizeLine_eq]; have := hl ds ps; omega, fun p hp => by
    have ne := urn_ne (g2.2.2 (g.2.2 U)) hp
    have s := (growU u).same (same_new hp (.lst vs))
    exact k p vs ds _ ((growU u).trans g ((growU u).trans g2 s)) (fun H' g3 => g3.1 p _ ne upd_same) (t.mono s.2.1) ps _ ((growU u).refl _)⟩
theorem TpAll.rev : ∀ {ds : List PyData} {vs : List V}, TpAll H vs ds → TpAll H vs.reverse ds.reverse
  | [], _, h => by cases h; exact .nil
  | d :: ds, _, h => by
    cases h with
    | cons a t =>
      rw [List.reverse_cons, List.reverse_cons]
      exact (TpAll.rev t).append (.cons a .nil)
theorem ev_callW {R : Hp → Hp → Prop} (G : Grow R) {n : Nat} {pre : List PyData → PyData → Prop} (ha : EvA R tr σ H ds) (hp : pre ds.reverse d) (hn : ds.length = n := by rfl) : EvD R (tCallW n (spD pre) tr) σ H d := fun H1 g Q q =>
  ha H1 g _ fun vs H2 g2 t2 => ⟨t2.len.trans hn, ds.reverse, d, t2.rev, hp, fun v H3 g3 t3 => q v H3 (G.trans g2 (G.same g3)) t3⟩
theorem evb_callW {R : Hp → Hp → Prop} (G : Grow R) {n : Nat} {b : Bool} {pre : List PyData → Bool → Prop} (ha : EvA R tr σ H ds) (hp : pre ds.reverse b) (hn : ds.length = n := by rfl) : EvB R (tCallW n (spB pre) tr) σ H b := fun H1 g Q q =>
  ha H1 g _ fun vs H2 g2 t2 => ⟨t2.len.trans hn, ds.reverse, b, t2.rev, hp, fun H3 g3 => q H3 (G.trans g2 (G.same g3))⟩
theorem eve_ifG {R : Hp → Hp → Prop} (G : Grow R) {Pi : Int → Prop} {Pd : PyData → Prop} {j : Int} (ha : EvE R ta σ H (fun d => ∃ i, d = .int i ∧ Pi i)) (hb : EvD R tb σ H (.int j)) (k1 : EvE R tc σ H Pd) (k2 : EvE R tf σ H Pd) :
    EvE R (tIf (tTest (tOp (rI0 fun i j => .bl (decide (j < i))) ta tb)) tc tf) σ H Pd := fun H1 g Q q => by
  refine ha H1 g _ fun v d H2 g2 t2 ⟨i, e, p⟩ => hb H2 (G.trans g g2) _ fun w' H3 g3 t3 => ?_
  subst e
  refine ⟨i, j, (t2.mono (G.tk g3)).int_of, t3.int_of, _, rfl, ?_⟩
  have g03 := G.trans (G.trans g g2) g3
  cases q' : decide (j < i) with
  | true => exact iteT (k1 H3 g03 Q fun v d H4 g4 t4 p4 => q v d H4 (G.trans (G.trans g2 g3) g4) t4 p4)
  | false => exact iteF (k2 H3 g03 Q fun v d H4 g4 t4 p4 => q v d H4 (G.trans (G.trans g2 g3) g4) t4 p4)
theorem evt_isntF {R : Hp → Hp → Prop} (h : EvB R te σ H true) : EvT R (tTest (tOp (fun x y H Q => ∃ a b, x = V.bl a ∧ y = V.bl b ∧ Q (V.bl !decide (a = b)) H) te (tC (.bl true)))) σ H false := fun H1 g Q q =>
  h H1 g _ fun H2 g2 => ⟨true, true, rfl, rfl, _, rfl, q H2 g2⟩
/-! what the law's comparisons come to, in plain terms -/
theorem shown_iff {k : Kd} {x y : Vl k} : decide ((enc k x).shown = (enc k y).shown) = decide (x = y) := decide_eq_decide.mpr shown_inj
end
section
variable {P : Program} {w : World} {K : PySem.W.Frag} {mg : Str → Option Value} {base : Heap}
def spRight : Sp := fun vs H Q _ => ∃ u, vs = [.ref u] ∧ Urn H u ∧ ∀ H', RU u H H' → Q (.bl true) H'
theorem sc_law_right : FnScope ["_law_urn_here", "_law_turn", "_law_kind", "_law_value_here", "_law_one_here", "_law_due", "_law_told", "_law_some", "_law_two", "_law_so"] ["_law_urn_here"] (defScope s_law_right) := ⟨rfl, rfl, rfl, by decide +kernel, rfl, by decide +kernel, by decide +kernel⟩
theorem ok_law_right (Z : Fs w K mg) : OkG P w K mg base "_law_right" ["_law_urn_here"] 21 spRight := by
  have sc := sc_law_right
  have O_law_is := ok_law_is (P := P) (base := base) Z
  have O_law_pull := ok_law_pull (P := P) (base := base) Z
  have O_law_d := ok_law_d (P := P) (base := base) Z 4
  have O_law_fits := ok_law_fits (P := P) (base := base) Z 4
  have O_law_led := ok_law_led (P := P) (base := base) Z 4
  have O_law_less := ok_law_less (P := P) (base := base) Z 4
  have O_law_data_kind := ok_law_data_kind (P := P) (base := base) Z 3
  have O_law_value := ok_law_value (P := P) (base := base) Z 8
  have O_law_change := ok_law_change (P := P) (base := base) Z 4
  have O_law_still := ok_law_still (P := P) (base := base) Z 4
  have O_law_otherwise := ok_law_otherwise (P := P) (base := base) Z 4
  have O_settled := ok_settled (P := P) (base := base) Z
  have O_are_alike := ok_are_alike (P := P) (base := base) Z
  have O_changes_nothing := ok_changes_nothing (P := P) (base := base) Z
  refine Z.f_law_right.okG sc (fun vs H Q E ⟨_, e, _⟩ => by rw [e]; rfl) (fun _ _ _ _ _ _ us hl => match us, hl with | [_], _ => rfl) fun f cdv A outer s H vs Q E hr hG h => ?_
  refine ⟨_, (pss_cons (ps_for PassesOwn.never rfl (pi_range1 rfl Z.zrange (pa_cons pe_int pa_nil)) (pg_name sc.nd (i := 1) rfl (by first | exact Or.inl rfl | exact Or.inr rfl)) (pss_cons (ps_set (i := 2) sc.nd rfl (by first | exact Or.inl rfl | exact Or.inr rfl) (pe_ifExp (pt_cmpR op_gt (pv 1) pe_int (nomark _)) (pe_callO O_law_data_kind hr (ha := (pa_cons (pv 0) (pa_cons pe_int pa_nil)))) (pe_tupN (pa_cons pe_str (pa_cons (pe_callO O_law_data_kind hr (ha := (pa_cons (pv 0) (pa_cons pe_int pa_nil)))) (pa_cons (pe_callO O_law_data_kind hr (ha := (pa_cons (pv 0) (pa_cons pe_int pa_nil)))) pa_nil)))))) (pss_cons (ps_set (i := 3) sc.nd rfl (by first | exact Or.inl rfl | exact Or.inr rfl) (pe_callO O_law_value hr (ha := (pa_cons (pv 0) (pa_cons (pv 2) pa_nil))))) (pss_cons (ps_set (i := 4) sc.nd rfl (by first | exact Or.inl rfl | exact Or.inr rfl) (pe_ifExp (pt_cmpR op_gt (pe_callO O_law_pull hr (ha := (pa_cons (pv 0) (pa_cons pe_int pa_nil)))) pe_int (nomark _)) (pe_callO O_law_change hr (ha := (pa_cons (pv 0) (pa_cons (pv 2) (pa_cons (pv 3) pa_nil))))) (pe_callO O_law_still hr (ha := (pa_cons (pv 0) (pa_cons (pv 2) (pa_cons (pv 3) pa_nil))))))) (pss_cons (ps_set (i := 5) sc.nd rfl (by first | exact Or.inl rfl | exact Or.inr rfl) (pe_callO O_law_less hr (ha := (pa_cons (pv 2) (pa_cons (pe_callO O_law_led hr (ha := (pa_cons (pv 2) (pa_cons (pv 3) (pa_cons (pv 4) pa_nil))))) (pa_cons (pv 3) pa_nil)))))) (pss_cons (ps_set (i := 6) sc.nd rfl (by first | exact Or.inl rfl | exact Or.inr rfl) (pe_lst (pa_cons (pe_callO O_settled hr (ha := (pa_cons (pv 2) (pa_cons (pv 3) (pa_cons (pv 4) pa_nil))))) (pa_cons (pe_callW (ks := ["change", "value", "kind"]) O_settled Z.f_settled hr (pk_cons (pv 4) (pk_cons (pv 3) (pk_cons (pv 2) pk_nil))) rfl (fun _ _ _ _ _ _ ws hl => match ws, hl with | [_, _, _], _ => rfl)) (pa_cons (pe_callO O_settled hr (ha := (pa_cons (pv 2) (pa_cons (pv 3) (pa_cons (pv 5) pa_nil))))) pa_nil))))) (pss_cons (ps_if (PW.pt (pw_or (pt_not (pt_val (pe_callG O_law_is hr hG (pa_cons (pv 6) (pa_cons (pe_lst (pa_cons (pv 5) (pa_cons (pv 5) (pa_cons (pv 5) pa_nil)))) pa_nil))))) (pw_or1 (pt_cmpR op_isnot_bl (pe_callO O_are_alike hr (ha := (pa_cons (pv 2) (pa_cons (pv 3) (pa_cons (pv 4) (pa_cons (pv 5) pa_nil)))))) pe_bl (nomark _))))) (pss_one (ps_ret pe_bl)) pss_nil) (pss_cons (ps_set (i := 7) sc.nd rfl (by first | exact Or.inl rfl | exact Or.inr rfl) (pe_lst (pa_cons (pe_callO O_law_otherwise hr (ha := (pa_cons (pv 0) (pa_cons (pv 2) (pa_cons (pv 3) (pa_cons (pv 4) pa_nil)))))) (pa_cons (pe_callO O_law_change hr (ha := (pa_cons (pv 0) (pa_cons (pv 2) (pa_cons (pv 3) pa_nil))))) (pa_cons (pe_callO O_law_value hr (ha := (pa_cons (pv 0) (pa_cons (pe_callO O_law_d hr (ha := (pa_cons (pv 2) pa_nil))) pa_nil)))) pa_nil))))) (pss_cons (ps_for PassesOwn.never rfl (pi_list (pv 7)) (pg_name sc.nd (i := 8) rfl (by first | exact Or.inl rfl | exact Or.inr rfl)) (pss_cons (ps_set (i := 9) sc.nd rfl (by first | exact Or.inl rfl | exact Or.inr rfl) (pe_and (pe_callO O_law_fits hr (ha := (pa_cons (pv 2) (pa_cons (pv 3) (pa_cons (pv 8) pa_nil))))) (pe_one (pe_callG O_law_is hr hG (pa_cons (pe_callO O_law_led hr (ha := (pa_cons (pv 2) (pa_cons (pv 3) (pa_cons (pv 4) pa_nil))))) (pa_cons (pe_callO O_law_led hr (ha := (pa_cons (pv 2) (pa_cons (pv 3) (pa_cons (pv 8) pa_nil))))) pa_nil)))))) (pss_cons (ps_set (i := 6) sc.nd rfl (by first | exact Or.inl rfl | exact Or.inr rfl) (pe_lst (pa_cons (pe_callO O_are_alike hr (ha := (pa_cons (pv 2) (pa_cons (pv 3) (pa_cons (pv 4) (pa_cons (pv 8) pa_nil)))))) (pa_cons (pe_callW (ks := ["two", "one", "value", "kind"]) O_are_alike Z.f_are_alike hr (pk_cons (pv 4) (pk_cons (pv 8) (pk_cons (pv 3) (pk_cons (pv 2) pk_nil)))) rfl (fun _ _ _ _ _ _ ws hl => match ws, hl with | [_, _, _, _], _ => rfl)) pa_nil)))) (pss_cons (ps_if (pt_not (pt_val (pe_callG O_law_is hr hG (pa_cons (pv 6) (pa_cons (pe_lst (pa_cons (pv 9) (pa_cons (pv 9) pa_nil))) pa_nil))))) (pss_one (ps_ret pe_bl)) pss_nil) (pss_cons (ps_set (i := 9) sc.nd rfl (by first | exact Or.inl rfl | exact Or.inr rfl) (pe_and (pe_callO O_law_fits hr (ha := (pa_cons (pv 2) (pa_cons (pv 3) (pa_cons (pv 8) pa_nil))))) (pe_one (pe_callG O_law_is hr hG (pa_cons (pe_callO O_law_led hr (ha := (pa_cons (pv 2) (pa_cons (pv 3) (pa_cons (pv 8) pa_nil))))) (pa_cons (pv 3) pa_nil)))))) (pss_cons (ps_if (pt_not (pt_val (pe_callG O_law_is hr hG (pa_cons (pe_lst (pa_cons (pe_callO O_changes_nothing hr (ha := (pa_cons (pv 2) (pa_cons (pv 3) (pa_cons (pv 8) pa_nil))))) pa_nil)) (pa_cons (pe_lst (pa_cons (pv 9) pa_nil)) pa_nil))))) (pss_one (ps_ret pe_bl)) pss_nil) (pss_one (ps_if (PW.pt (pw_and (pt_val (pv 9)) (pw_and1 (pt_not (pt_val (pe_callG O_law_is hr hG (pa_cons (pe_callO O_settled hr (ha := (pa_cons (pv 2) (pa_cons (pv 3) (pa_cons (pv 8) pa_nil))))) (pa_cons (pe_callO O_law_less hr (ha := (pa_cons (pv 2) (pa_cons (pv 3) (pa_cons (pv 3) pa_nil))))) pa_nil)))))))) (pss_one (ps_ret pe_bl)) pss_nil)))))))) (pss_cons (ps_set (i := 9) sc.nd rfl (by first | exact Or.inl rfl | exact Or.inr rfl) (pe_callG O_law_is hr hG (pa_cons (pe_callO O_law_led hr (ha := (pa_cons (pv 2) (pa_cons (pv 3) (pa_cons (pv 4) pa_nil))))) (pa_cons (pv 3) pa_nil)))) (pss_one (ps_if (pt_not (pt_val (pe_callG O_law_is hr hG (pa_cons (pe_callW (ks := ["change", "value", "kind"]) O_changes_nothing Z.f_changes_nothing hr (pk_cons (pv 4) (pk_cons (pv 3) (pk_cons (pv 2) pk_nil))) rfl (fun _ _ _ _ _ _ ws hl => match ws, hl with | [_, _, _], _ => rfl)) (pa_cons (pv 9) pa_nil))))) (pss_one (ps_ret pe_bl)) pss_nil)))))))))))) (pss_one (ps_ret pe_bl))), ?_⟩
  obtain ⟨u, rfl, U, q⟩ := h
  have G := growU u
  refine ⟨5, rfl, by decide, by decide, for_range (fun i σ' Hc => (∃ x1 x2 x3 x4 x5 x6 x7 x8 x9, σ' = [some (.ref u), x1, x2, x3, x4, x5, x6, x7, x8, x9]) ∧ RU u H Hc) ⟨⟨_, _, _, _, _, _, _, _, _, rfl⟩, G.refl H⟩ (fun i σ' Hc hi hpv => ?_) fun σ' Hc h => q Hc h.2⟩
  obtain ⟨⟨x1, x2, x3, x4, x5, x6, x7, x8, x9, rfl⟩, g0⟩ := hpv
  replace U := g0.2.2 U
  show tSeq _ _ _ _ _
  refine EvS.run G (es_setE G (Pd := fun d => ∃ k, d = encK k ∧ k.ok = true ∧ k.dep ≤ 4) (eve_if G (evt_test (evb_gt G (ev_var G (.int _)) (ev_int G)))
    (fun _ => EvE.imp (eve_call U (pre := preUp 3 Pkd) (eva_one G (ev_int G)) ⟨3, by decide, rfl, rfl⟩) fun d ⟨k, a, b, c⟩ => ⟨k, a, b, c⟩)
    fun _ => EvE.imp (eve_tup G (eae_cons G (EvD.eve (ev_str G) (Pd := fun d => d = .str "either") rfl) (eae_cons G (eve_call U (pre := preUp 3 Pkd) (eva_one G (ev_int G)) ⟨2, by decide, rfl, rfl⟩) (eae_cons G (eve_call U (pre := preUp 3 Pkd) (eva_one G (ev_int G)) ⟨2, by decide, rfl, rfl⟩) (eae_nil G)))) (by rintro l ⟨_, _, rfl, _, _, _, rfl, _, _, _, rfl, _, rfl⟩; show 3 ≤ 1000; decide))
      (by
        rintro d ⟨l, rfl, _, _, rfl, rfl, _, _, rfl, ⟨ka, rfl, oa, da⟩, _, _, rfl, ⟨kb, rfl, ob, db⟩, rfl⟩
        refine ⟨.either ka kb, rfl, Bool.and_eq_true_iff.mpr ⟨oa, ob⟩, ?_⟩
        show max ka.dep kb.dep + 1 ≤ 4
        omega)) fun vk dk H1 g1 tk1 ⟨k, ek, ok, dep⟩ => ?_)
  subst ek
  have okD := Kd.ok_D ok
  have depD := Kd.dep_D k
  have U1 := g1.2.2 U
  refine es_setE G (eve_call U1 (pre := preValU 8) (eva_one G (ev_var G tk1)) ⟨k, ok, by omega, by omega, rfl, rfl⟩) fun vv dv' H2 g2 tv2 ⟨v, ev, dv⟩ => ?_
  subst ev
  have U2 := g2.2.2 U1
  have tk2 := tk1.mono (G.tk g2)
  refine es_setE G (Pd := fun d => ∃ c : Vl k.D, d = enc k.D c ∧ DC 1000000000000 6 k c ∧ fits k v c = true) (eve_ifG G (eve_call U2 (pre := prePull) (eva_one G (ev_int G)) ⟨3, by decide, by decide, rfl, rfl⟩) (ev_int G)
    (EvE.imp (eve_call U2 (pre := preChU 4) (eva_two G (ev_var G tk2) (ev_var G tv2)) ⟨k, v, ok, dep, by omega, dv, rfl, rfl⟩) fun d ⟨c, a, b, f⟩ => ⟨c, a, b.up (by decide) (by decide), f⟩)
    (eve_call U2 (pre := preStU 4) (eva_two G (ev_var G tk2) (ev_var G tv2)) ⟨k, v, ok, dep, by omega, dv, rfl, rfl⟩)) fun vc dc' H3 g3 tc3 ⟨c, ec, dc, fc⟩ => ?_
  subst ec
  have U3 := g3.2.2 U2
  have tk3 := tk2.mono (G.tk g3)
  have tv3 := tv2.mono (G.tk g3)
  have kk : Kk k := ⟨ok, dep⟩
  have gv := dv.gd
  have gc := dc.gd (m := 1000000000000) (l := 6) (by decide) (by decide)
  obtain ⟨ol, sl⟩ := led_gd ok dv dc
  have gl : Gd k (led k v c) := ⟨ol, small_mono (by decide) (by decide) k _ sl⟩
  have gx : Gd k.D (less k (led k v c) v) := ⟨okv_less k ok _ v ol dv.ok, small_mono (by decide) (by decide) k.D _ (small_less k _ v sl dv.sm)⟩
  have lx : led k v (less k (led k v c) v) = led k v c := led_less k ok _ v ol
  have fx : fits k v (less k (led k v c) v) = true := fits_less k _ v
  have glx : Gd k (led k v (less k (led k v c) v)) := by rw [lx]; exact gl
  refine es_set G (ev_call G (pre := preLess 4) (eva_cons G (ev_var G tk3) (eva_two G (ev_call G (pre := preLed 4) (eva_cons G (ev_var G tk3) (eva_two G (ev_var G tv3) (ev_var G tc3))) ⟨k, v, c, ok, dep, by omega, gv, gc, rfl, rfl⟩) (ev_var G tv3))) ⟨k, led k v c, v, ok, dep, by omega, gl, gv, rfl, rfl⟩) fun vx H4 g4 tx4 => ?_
  have U4 := g4.2.2 U3
  have tk4 := tk3.mono (G.tk g4)
  have tv4 := tv3.mono (G.tk g4)
  have tc4 := tc3.mono (G.tk g4)
  have shx := sho_enc2 okD (by omega) gx
  have sh3 : Sho (.list [enc k.D (less k (led k v c) v), enc k.D (less k (led k v c) v), enc k.D (less k (led k v c) v)]) := sho_list (fun z hz => by
    simp only [List.mem_cons, List.not_mem_nil, or_false] at hz
    rcases hz with rfl | rfl | rfl <;> exact shx) (show 3 ≤ 4 by decide)
  have hthird : ∀ {te : TE} {σ : L2.St}, EvD (RU u) te σ H4 (enc k.D (less k (led k v (less k (led k v c) v)) v)) → EvD (RU u) te σ H4 (enc k.D (less k (led k v c) v)) := fun h => by rw [lx] at h; exact h
  refine es_setX (K := K) (evx_lst U4 (eax_cons (evx_d (ev_call G (pre := preSettled) (eva_cons G (ev_var G tk4) (eva_two G (ev_var G tv4) (ev_var G tc4))) ⟨k, v, c, kk, gv, gc, gl, fc, rfl, rfl⟩))
    (eax_cons (evx_d (ev_callW G (pre := preSettled) (eva_cons G (ev_var G tc4) (eva_two G (ev_var G tv4) (ev_var G tk4))) ⟨k, v, c, kk, gv, gc, gl, fc, rfl, rfl⟩))
    (eax_cons (evx_d (hthird (ev_call G (pre := preSettled) (eva_cons G (ev_var G tk4) (eva_two G (ev_var G tv4) (ev_var G tx4))) ⟨k, v, _, kk, gv, gx, glx, fx, rfl, rfl⟩))) eax_nil))) (show 3 ≤ 1000 by decide)) fun vt H5 g5 kt5 => ?_
  have U5 := g5.2.2 U4
  have tk5 := tk4.mono (G.tk g5)
  have tv5 := tv4.mono (G.tk g5)
  have tc5 := tc4.mono (G.tk g5)
  have tx5 := tx4.mono (G.tk g5)
  refine es_ifF G (evt_orF G (evt_notT (evt_B (evb_isT (evx_var kt5) (evx_lst U5 (eax_cons (evx_d (ev_var G tx5)) (eax_cons (evx_d (ev_var G tx5)) (eax_cons (evx_d (ev_var G tx5)) eax_nil))) (show 3 ≤ 1000 by decide)) sh3)))
    (evt_isntF (evb_call G (pre := preAlike) (eva_cons G (ev_var G tk5) (eva_cons G (ev_var G tv5) (eva_two G (ev_var G tc5) (ev_var G tx5)))) ⟨k, v, c, _, kk, gv, gc, gx, rfl, by rw [fc, fx, lx, decide_eq_true rfl]; rfl⟩))) ?_
  refine es_setI U5 (Ps := fun l => ∃ a b c : Vl k.D, l = [enc k.D a, enc k.D b, enc k.D c] ∧ DC 2000000000000 12 k a ∧ DC 2000000000000 12 k b ∧ DC 2000000000000 12 k c) ?_ (by rintro l ⟨_, _, _, rfl, _⟩; show 3 ≤ 1000; decide) fun p ws es H6 g6 hp6 te6 hes => ?_
  · have h := eae_cons G (eve_call U5 (i := 0) (σ := [some (.ref u), some (.int (0 + (i : Int))), some vk, some vv, some vc, some vx, some vt, x7, x8, x9]) (pre := preOtU 4) (eva_cons G (ev_var G (i := 2) tk5) (eva_two G (ev_var G (i := 3) tv5) (ev_var G (i := 4) tc5))) ⟨k, v, c, ok, dep, by omega, dv, dc, rfl, rfl⟩)
      (eae_cons G (eve_call U5 (i := 0) (pre := preChU 4) (eva_two G (ev_var G (i := 2) tk5) (ev_var G (i := 3) tv5)) ⟨k, v, ok, dep, by omega, dv, rfl, rfl⟩)
      (eae_cons G (eve_call U5 (i := 0) (pre := preValU 8) (eva_one G (ev_call G (pre := preLD 4) (eva_one G (ev_var G (i := 2) tk5)) ⟨k, dep, rfl, rfl⟩)) ⟨k.D, okD, by omega, by omega, rfl, rfl⟩) (eae_nil G)))
    intro Ha ga Qa qa
    refine h Ha ga Qa fun vs ds Hb gb tb hb => qa vs ds Hb gb tb ?_
    obtain ⟨_, _, rfl, ⟨e1, rfl, d1⟩, _, _, rfl, ⟨e2, rfl, d2, _⟩, _, _, rfl, ⟨e3, rfl, d3⟩, rfl⟩ := hb
    exact ⟨e1, e2, e3, rfl, d1, d2.up (by decide) (by decide), ⟨d3.ok, small_mono (by decide) (by decide) k.D _ d3.sm⟩⟩
  have U6 := g6.2.2 U5
  have tk6 := tk5.mono (G.tk g6)
  have tv6 := tv5.mono (G.tk g6)
  have tc6 := tc5.mono (G.tk g6)
  have hmem : ∀ d ∈ es, ∃ y : Vl k.D, d = enc k.D y ∧ DC 2000000000000 12 k y := by
    obtain ⟨a, b, c, rfl, h1, h2, h3⟩ := hes
    intro d hd
    simp only [List.mem_cons, List.not_mem_nil, or_false] at hd
    rcases hd with rfl | rfl | rfl
    · exact ⟨_, rfl, h1⟩
    · exact ⟨_, rfl, h2⟩
    · exact ⟨_, rfl, h3⟩
  intro H7 g7
  refine ⟨.ref p, rfl, p, rfl, ⟨ws, .inl (.inl (hp6 _ g7))⟩, for_list (xs := ws) (fun j σ' Hc => (∃ y6 y8 y9, σ' = [some (.ref u), some (.int (0 + (i : Int))), some vk, some vv, some vc, some vx, y6, some (.ref p), y8, y9]) ∧ RU u H6 Hc) ⟨⟨_, _, _, rfl⟩, g7⟩ (fun j σ' Hc _ h => .inl (.inl (hp6 _ h.2))) (fun j y σ' Hc hy hpv => ?_) fun σ' Hc hpv => ?_⟩
  · obtain ⟨⟨y6, y8, y9, rfl⟩, gg⟩ := hpv
    obtain ⟨d, hd, ty⟩ := te6.getV hy
    obtain ⟨z, rfl, dz⟩ := hmem d (List.mem_of_getElem? hd)
    have Uc := gg.2.2 U6
    have tk := tk6.mono (G.tk gg)
    have tv := tv6.mono (G.tk gg)
    have tc := tc6.mono (G.tk gg)
    have tz := ty.mono (G.tk gg)
    have gz := dz.gd (m := 2000000000000) (l := 12) (by decide) (by decide)
    have gw : Gd k (led k v z) := ⟨okv_led k ok v z dv.ok dz.ok, small_mono (by decide) (by decide) k _ (small_led k v z dv.sm dz.sm)⟩
    have sl1 := sho_enc2 ok (by omega) gl
    have sw1 := sho_enc2 ok (by omega) gw
    have sv1 := sho_enc2 ok (by omega) gv
    show tSeq _ _ _ _ _
    refine EvS.run G (es_setB G (b := fits k v z && decide (led k v c = led k v z)) (EvB.eq (evb_and G (evb_call G (pre := preFits 4) (eva_cons G (ev_var G tk) (eva_two G (ev_var G tv) (ev_var G tz))) ⟨k, v, z, dep, rfl, rfl⟩) fun _ => evb_is (evx_d (ev_call G (pre := preLed 4) (eva_cons G (ev_var G tk) (eva_two G (ev_var G tv) (ev_var G tc))) ⟨k, v, c, ok, dep, by omega, gv, gc, rfl, rfl⟩))
      (evx_d (ev_call G (pre := preLed 4) (eva_cons G (ev_var G tk) (eva_two G (ev_var G tv) (ev_var G tz))) ⟨k, v, z, ok, dep, by omega, gv, gz, rfl, rfl⟩)) sl1.1 sw1.1) (by rw [shown_iff])) ?_)
    refine es_setX (K := K) (evx_lst Uc (eax_cons (evx_b (EvB.eq (c := fits k v z && decide (led k v c = led k v z)) (evb_call G (pre := preAlike) (eva_cons G (ev_var G tk) (eva_cons G (ev_var G tv) (eva_two G (ev_var G tc) (ev_var G tz)))) ⟨k, v, c, z, kk, gv, gc, gz, rfl, rfl⟩) (by rw [fc, Bool.true_and])))
      (eax_cons (evx_b (EvB.eq (c := fits k v z && decide (led k v c = led k v z)) (evb_callW G (pre := preAlike) (eva_cons G (ev_var G tc) (eva_cons G (ev_var G tz) (eva_two G (ev_var G tv) (ev_var G tk)))) ⟨k, v, z, c, kk, gv, gz, gc, rfl, rfl⟩) (by rw [fc, Bool.and_true, decide_eq_decide.mpr (show led k v z = led k v c ↔ led k v c = led k v z from ⟨Eq.symm, Eq.symm⟩)]))) eax_nil)) (show 2 ≤ 1000 by decide)) fun vt8 H8 g8 kt8 => ?_
    have U8 := g8.2.2 Uc
    have tk8 := tk.mono (G.tk g8)
    have tv8 := tv.mono (G.tk g8)
    have tz8 := tz.mono (G.tk g8)
    refine es_ifF G (evt_notT (evt_B (evb_isT (evx_var kt8) (evx_lst U8 (eax_cons (evx_b (evb_var G)) (eax_cons (evx_b (evb_var G)) eax_nil)) (show 2 ≤ 1000 by decide)) (sho_list (fun x hx => by
      simp only [List.mem_cons, List.not_mem_nil, or_false] at hx
      rcases hx with rfl | rfl <;> exact sho_bl2 _) (show 2 ≤ 4 by decide))))) ?_
    refine es_setB G (b := fits k v z && decide (led k v z = v)) (EvB.eq (evb_and G (evb_call G (pre := preFits 4) (eva_cons G (ev_var G tk8) (eva_two G (ev_var G tv8) (ev_var G tz8))) ⟨k, v, z, dep, rfl, rfl⟩) fun _ => evb_is
      (evx_d (ev_call G (pre := preLed 4) (eva_cons G (ev_var G tk8) (eva_two G (ev_var G tv8) (ev_var G tz8))) ⟨k, v, z, ok, dep, by omega, gv, gz, rfl, rfl⟩)) (evx_d (ev_var G tv8)) sw1.1 sv1.1) (by rw [shown_iff])) ?_
    refine es_ifF G (evt_notT (evt_B (evb_isT (evx_lst U8 (eax_cons (evx_b (evb_call G (pre := preNothing) (eva_cons G (ev_var G tk8) (eva_two G (ev_var G tv8) (ev_var G tz8))) ⟨k, v, z, kk, gv, gz, rfl, rfl⟩)) eax_nil) (show 1 ≤ 1000 by decide)) (evx_lst U8 (eax_cons (evx_b (evb_var G)) eax_nil) (show 1 ≤ 1000 by decide)) (sho_list (fun x hx => by
      rw [List.mem_singleton.mp hx]
      exact sho_bl2 _) (show 1 ≤ 4 by decide))))) ?_
    have last : ∀ H9, RU u H8 H9 → RU u H6 H9 := fun H9 g9 => G.trans gg (G.trans g8 g9)
    cases hso : (fits k v z && decide (led k v z = v)) with
    | false => exact es_ifF1 G (evt_andF (evt_B (evb_var G))) fun H9 g9 => ⟨⟨_, _, _, rfl⟩, last H9 g9⟩
    | true =>
      obtain ⟨fz, lz⟩ := Bool.and_eq_true_iff.mp hso
      have lz' : led k v z = v := of_decide_eq_true lz
      have gd0 : Gd k.D (less k v v) := ⟨okv_less k ok v v dv.ok dv.ok, small_mono (by decide) (by decide) k.D _ (small_less k v v dv.sm dv.sm)⟩
      have hset : ∀ {te : TE} {σ : L2.St}, EvD (RU u) te σ H8 (enc k.D (less k (led k v z) v)) → EvD (RU u) te σ H8 (enc k.D (less k v v)) := fun h => by rw [lz'] at h; exact h
      exact es_ifF1 G (evt_andT G (evt_B (evb_var G)) (evt_notT (evt_B (evb_isT (evx_d (hset (ev_call G (pre := preSettled) (eva_cons G (ev_var G tk8) (eva_two G (ev_var G tv8) (ev_var G tz8))) ⟨k, v, z, kk, gv, gz, gw, fz, rfl, rfl⟩)))
        (evx_d (ev_call G (pre := preLess 4) (eva_cons G (ev_var G tk8) (eva_two G (ev_var G tv8) (ev_var G tv8))) ⟨k, v, v, ok, dep, by omega, gv, gv, rfl, rfl⟩)) (sho_enc2 okD (by omega) gd0).1)))) fun H9 g9 => ⟨⟨_, _, _, rfl⟩, last H9 g9⟩
  · obtain ⟨⟨y6, y8, y9, rfl⟩, gg⟩ := hpv
    have Uc := gg.2.2 U6
    have tk := tk6.mono (G.tk gg)
    have tv := tv6.mono (G.tk gg)
    have tc := tc6.mono (G.tk gg)
    show tSeq _ _ _ _ _
    refine EvS.run G (es_setB G (b := decide (led k v c = v)) (EvB.eq (evb_is (evx_d (ev_call G (pre := preLed 4) (eva_cons G (ev_var G tk) (eva_two G (ev_var G tv) (ev_var G tc))) ⟨k, v, c, ok, dep, by omega, gv, gc, rfl, rfl⟩)) (evx_d (ev_var G tv)) (sho_enc2 ok (by omega) gl).1 (sho_enc2 ok (by omega) gv).1) shown_iff) ?_)
    exact es_ifF1 G (evt_notT (evt_B (evb_isT (evx_b (EvB.eq (c := decide (led k v c = v)) (evb_callW G (pre := preNothing) (eva_cons G (ev_var G tc) (eva_two G (ev_var G tv) (ev_var G tk))) ⟨k, v, c, kk, gv, gc, rfl, rfl⟩) (by rw [fc, Bool.true_and]))) (evx_b (evb_var G)) (sho_bl _)))) fun H9 g9 => ⟨⟨_, _, _, _, _, _, _, _, _, rfl⟩, G.trans g0 (G.trans g1 (G.trans g2 (G.trans g3 (G.trans g4 (G.trans g5 (G.trans g6 (G.trans gg g9)))))))⟩
end
end Cw
/-! part CwL3 -/
set_option Elab.async false
set_option linter.all false
set_option maxRecDepth 100000
set_option maxHeartbeats 2000000
/-! law. -/
namespace Cw
open PySem PySem.Spec PyProof.Rows L2
section
variable {P : Program} {w : World} {K : PySem.W.Frag} {mg : Str → Option Value} {base : Heap}
def spLaw (K : PySem.W.Frag) : Sp := fun vs H Q _ => ∃ (a : Addr) (ns : List Int), vs = [.ref a] ∧ SqL K H a (ns.map V.int) ∧ ∀ H', Q (.bl true) H'
theorem sc_law : FnScope ["_law_script", "_law_turn"] ["_law_script"] (defScope s_law) := ⟨rfl, rfl, rfl, by decide +kernel, rfl, by decide +kernel, by decide +kernel⟩
theorem ok_law (Z : Fs w K mg) : OkG P w K mg base "law" ["_law_script"] 22 (spLaw K) := by
  have sc := sc_law
  have O_law_right := ok_law_right (P := P) (base := base) Z
  have O_law_urn := ok_law_urn (P := P) (base := base) Z
  refine Z.f_law.okG sc (fun vs H Q E ⟨_, _, e, _⟩ => by rw [e]; rfl) (fun _ _ _ _ _ _ us hl => match us, hl with | [_], _ => rfl) fun f cdv A outer s H vs Q E hr hG h => ?_
  refine ⟨_, (pss_cons (ps_for PassesOwn.never rfl (pi_range1 rfl Z.zrange (pa_cons (pe_callB (call_max2 rfl) rfl Z.zmax boot_max (pa_cons pe_int (pa_cons (pe_callB (call_min2 rfl) rfl Z.zmin boot_min (pa_cons (pe_callB call_len rfl Z.zlen PySem.boot_len (pa_cons (pv 0) pa_nil)) (pa_cons pe_int pa_nil))) pa_nil))) pa_nil)) (pg_name sc.nd (i := 1) rfl (by first | exact Or.inl rfl | exact Or.inr rfl)) (pss_one (ps_if (pt_not (pt_val (pe_callG O_law_right hr hG (pa_cons (pe_callO O_law_urn hr (ha := (pa_cons (pv 0) (pa_cons (pv 1) pa_nil)))) pa_nil)))) (pss_one (ps_ret pe_bl)) pss_nil))) (pss_one (ps_ret pe_bl))), ?_⟩
  obtain ⟨a, ns, rfl, hq, q⟩ := h
  have go : ∀ j : Int, j = (if (if (3 : Int) < (ns.map V.int).length then (3 : Int) else ((ns.map V.int).length : Int)) > 1 then (if (3 : Int) < (ns.map V.int).length then (3 : Int) else ((ns.map V.int).length : Int)) else 1) → 1 ≤ j ∧ j ≤ 3 := fun j e => by
    subst e
    split <;> split <;> omega
  refine ⟨.ref a, rfl, .ref a, (ns.map V.int).length, rfl, .inl ⟨_, hq, rfl⟩, _, _, rfl, _, _, rfl, _, rfl, by have := go _ rfl; omega, by have := go _ rfl; omega, ?_⟩
  generalize hj : (if (if (3 : Int) < (ns.map V.int).length then (3 : Int) else ((ns.map V.int).length : Int)) > 1 then (if (3 : Int) < (ns.map V.int).length then (3 : Int) else ((ns.map V.int).length : Int)) else 1) = j
  have hj3 := go j hj.symm
  refine for_range (fun i σ' Hc => (∃ x, σ' = [some (.ref a), x]) ∧ SqL K Hc a (ns.map V.int)) ⟨⟨_, rfl⟩, hq⟩ (fun i σ' Hc hi hpv => ?_) fun σ' Hc _ => q Hc
  obtain ⟨⟨x, rfl⟩, hc⟩ := hpv
  refine ⟨.ref a, rfl, .int (0 + (i : Int)), rfl, a, ns, i, by rw [Int.zero_add]; rfl, by omega, hc, fun u H' g U hu => ⟨u, rfl, U, fun H2 r => ⟨true, rfl, iteF ⟨⟨_, rfl⟩, ?_⟩⟩⟩⟩
  refine hc.imp (fun h => ?_) id
  have nu : ∀ {o : HO}, Hc a = some o → a ≠ u := fun e z => by rw [z, hu] at e; cases e
  rcases h with h | ⟨o, h⟩
  · exact .inl (r.1 a _ (nu h) (g a _ h))
  · exact .inr ⟨o, r.1 a _ (nu h) (g a _ h)⟩
end
end Cw
/-! part CwEnd -/
set_option Elab.async false
set_option linter.all false
set_option maxRecDepth 100000
set_option maxHeartbeats 2000000
/-! What the head leaves, put together; the call of the law where no guard stands; the end. -/
namespace Cw
open PySem PySem.Spec PyProof.Rows L2
section
variable {w : World} {K : PySem.W.Frag} {h : Heap} {mg : Str → Option Value}
theorem fx_of (X : K.In h) (G : h.Ns mainGlobals mg) (c : He.SaysD fa fn K) {x : Str} {st : Stmt} {dvl : List He.Dv} {dvs : List V} (i j : Nat) (hd : fn[i]? = some (dD x st dvl)) (hf : fa[j]? = some (.glo x)) (hv : (dD x st dvl).dvs K = dvs) : FX K mg x st dvs := by
  obtain ⟨fd, F⟩ := c.def_ i (d := dD x st dvl) hd
  exact ⟨⟨fd, hv ▸ F⟩, He.glo_ok X G (c.fact j (f := .glo x) hf)⟩
theorem free_of (X : K.In h) (G : h.Ns mainGlobals mg) (c : He.SaysD fa fn K) {x : Str} (j : Nat) (hf : fa[j]? = some (.free x)) : mg x = none := He.free_ok X G (c.fact j (f := .free x) hf)
theorem glo_of (X : K.In h) (G : h.Ns mainGlobals mg) (c : He.SaysD fa fn K) {x : Str} (j : Nat) (hf : fa[j]? = some (.glo x)) : mg x = some (.ref (He.ga K x)) := He.glo_ok X G (c.fact j (f := .glo x) hf)
theorem fs_of (X : K.In h) (G : h.Ns mainGlobals mg) (c : He.SaysX fa fn ts [] ex w h K) : Fs w K mg where
  f_is_whole := fx_of X G c.t.d 0 0 rfl rfl rfl
  f_is_kinded := fx_of X G c.t.d 1 1 rfl rfl rfl
  f_is_plain := fx_of X G c.t.d 2 2 rfl rfl rfl
  f_is_data := fx_of X G c.t.d 3 3 rfl rfl rfl
  f_is_valued := fx_of X G c.t.d 4 4 rfl rfl rfl
  f_is_counted := fx_of X G c.t.d 5 5 rfl rfl rfl
  f_are_counted := fx_of X G c.t.d 6 6 rfl rfl rfl
  f_is_paired := fx_of X G c.t.d 7 7 rfl rfl rfl
  f_bag_by := fx_of X G c.t.d 8 8 rfl rfl rfl
  f_sum_of_bags := fx_of X G c.t.d 9 9 rfl rfl rfl
  f_plus_by := fx_of X G c.t.d 10 10 rfl rfl rfl
  f_times_by := fx_of X G c.t.d 11 11 rfl rfl rfl
  f_is_side := fx_of X G c.t.d 12 12 rfl rfl rfl
  f_is_change_by := fx_of X G c.t.d 13 13 rfl rfl rfl
  f_part_kind := fx_of X G c.t.d 14 14 rfl rfl rfl
  f_fits_by := fx_of X G c.t.d 15 15 rfl rfl rfl
  f_led_by := fx_of X G c.t.d 16 16 rfl rfl rfl
  f_less_by := fx_of X G c.t.d 17 17 rfl rfl rfl
  f_settled_by := fx_of X G c.t.d 18 18 rfl rfl rfl
  f_check_kind_that := fx_of X G c.t.d 19 19 rfl rfl rfl
  f_check_data := fx_of X G c.t.d 20 20 rfl rfl rfl
  f_check_value := fx_of X G c.t.d 21 21 rfl rfl rfl
  f_check_valued := fx_of X G c.t.d 22 22 rfl rfl rfl
  f_check_change := fx_of X G c.t.d 23 23 rfl rfl rfl
  f_check_fitting := fx_of X G c.t.d 24 24 rfl rfl rfl
  f_settled := fx_of X G c.t.d 25 25 rfl rfl rfl
  f_are_alike := fx_of X G c.t.d 26 26 rfl rfl rfl
  f_changes_nothing := fx_of X G c.t.d 27 27 rfl rfl rfl
  f_law_urn := fx_of X G c.t.d 28 28 rfl rfl rfl
  f_law_pull := fx_of X G c.t.d 29 29 rfl rfl rfl
  f_law_one := fx_of X G c.t.d 30 30 rfl rfl rfl
  f_law_is := fx_of X G c.t.d 31 31 rfl rfl rfl
  f_law_truth := fx_of X G c.t.d 32 32 rfl rfl rfl
  f_law_plain_kind := fx_of X G c.t.d 33 33 rfl rfl rfl
  f_law_data_kind := fx_of X G c.t.d 34 34 rfl rfl rfl
  f_law_bag := fx_of X G c.t.d 35 35 rfl rfl rfl
  f_law_whole := fx_of X G c.t.d 36 36 rfl rfl rfl
  f_law_value := fx_of X G c.t.d 37 37 rfl rfl rfl
  f_law_plus := fx_of X G c.t.d 38 38 rfl rfl rfl
  f_law_many := fx_of X G c.t.d 39 39 rfl rfl rfl
  f_law_d := fx_of X G c.t.d 40 40 rfl rfl rfl
  f_law_fits := fx_of X G c.t.d 41 41 rfl rfl rfl
  f_law_led := fx_of X G c.t.d 42 42 rfl rfl rfl
  f_law_less := fx_of X G c.t.d 43 43 rfl rfl rfl
  f_law_change := fx_of X G c.t.d 44 44 rfl rfl rfl
  f_law_still := fx_of X G c.t.d 45 45 rfl rfl rfl
  f_law_otherwise := fx_of X G c.t.d 46 46 rfl rfl rfl
  f_law_right := fx_of X G c.t.d 47 47 rfl rfl rfl
  f_law := fx_of X G c.t.d 48 48 rfl rfl rfl
  zisinstance := free_of X G c.t.d 50 rfl
  zint := free_of X G c.t.d 51 rfl
  zbool := free_of X G c.t.d 52 rfl
  ztuple := free_of X G c.t.d 53 rfl
  zstr := free_of X G c.t.d 54 rfl
  zlen := free_of X G c.t.d 55 rfl
  zall := free_of X G c.t.d 56 rfl
  zzip := free_of X G c.t.d 57 rfl
  zsorted := free_of X G c.t.d 58 rfl
  zdict := free_of X G c.t.d 59 rfl
  zlist := free_of X G c.t.d 60 rfl
  zrange := free_of X G c.t.d 61 rfl
  zrepr := free_of X G c.t.d 62 rfl
  zabs := free_of X G c.t.d 63 rfl
  zdivmod := free_of X G c.t.d 64 rfl
  zmax := free_of X G c.t.d 65 rfl
  zmin := free_of X G c.t.d 66 rfl
  kz := ⟨_, glo_of X G c.t.d 49 rfl, c.t.tab 0, fun q hq => (He.valsB_ok c.more (List.mem_map_of_mem hq)).imp fun u hu => hu⟩
end
/-- the law's call, the law being a def that asks that no guard stands -/
theorem call_g {P : Program} {w : World} {K : PySem.W.Frag} {mg mb : Str → Option Value} {k : Nat} {fa a : Addr} {fd : FuncData} {x : Str} {sp : Sp} {s₁ : Shared} {vs : List Value} {ns : List Int} (KX : K.In s₁.heap) (hns : s₁.heap.Ns mainGlobals mg) (hb : s₁.heap.Ns builtinsNs mb)
    (hbb : ∀ x : Str, x ≠ "__name__" → mb x = bootBuiltins x) (hlim : s₁.heap.NoLimit) (hg : s₁.gens = #[]) (ha : s₁.heap.get? a = some { cls := .type "list", data := .seq vs.toArray }) (hi : IntsAre vs ns) (hl : ns.length ≤ sizeLine) (hr : Room k callerA)
    (F : ∀ base : Heap, K.In base → base.Ns mainGlobals mg → FnG P w K mg base k fa fd [x] sp) (hbind : ∀ (s : Shared) (u : Value), BindsTo s fd ⟨[u], []⟩ [(x, u)]) (hsp : ∀ H : Hp, SqL K H a (ns.map V.int) → sp [.ref a] H (fun v _ => v = .bl true) E0) :
    codeAny (model P w) callerA (.call (.ref fa) ⟨[.ref a], []⟩) (fun r s2 => r = .ok (.ret (.bool true)) ∧ OldK s₁.heap s2.heap ∧ s2.os = s₁.os ∧ AllBare s2.gens) s₁ := by
  have rv := vals_ints hi
  have main : ∀ H : Hp, (∀ b, H b = none ∨ b = a ∧ ∃ o xs, H b = some (.frz o (.lst xs))) → SqL K H a (ns.map V.int) → HOk P w H s₁.heap → (H a ≠ none → K.lookup a = none) →
      codeAny (model P w) callerA (.call (.ref fa) ⟨[.ref a], []⟩) (fun r s2 => r = .ok (.ret (.bool true)) ∧ OldK s₁.heap s2.heap ∧ s2.os = s₁.os ∧ AllBare s2.gens) s₁ := by
    intro H only hS hok hK
    have isA : ∀ {b : Addr} {u : HO}, H b = some u → b = a := fun {b u} e => (only b).elim (fun z => by rw [z] at e; cases e) fun z => z.1
    have offA : ∀ {b : Addr} {o : Obj} {es : Array DictEntry} {ep : Nat}, s₁.heap.get? b = some o → o.data = .dict es ep → H b = none := fun {b o es ep} e d => by
      rcases only b with z | ⟨rfl, _⟩
      · exact z
      · rw [ha] at e
        cases e
        cases (show Data.seq vs.toArray _ = Data.dict es ep from d)
    have nsB : ∀ {b : Addr} {m : Str → Option Value}, s₁.heap.Ns b m → (hidT s₁.heap H).Ns b m := fun {b m} ⟨o, es, ep, e, d, r⟩ => ⟨o, es, ep, hidT_get e (offA e d), d, r⟩
    have inB : K.In (hidT s₁.heap H) := fun b o e => hidT_get (KX b o e) (by
      rcases only b with z | ⟨rfl, ⟨o', xs, z⟩⟩
      · exact z
      · rw [hK (by rw [z]; exact Option.some_ne_none _)] at e
        cases e)
    have mod : Mod K mg (hidT s₁.heap H) := ⟨inB, nsB hns, ⟨mb, nsB hb, hbb⟩, let ⟨mc, h1, h2⟩ := hlim; ⟨mc, nsB h1, h2⟩⟩
    have env : Env0 P w K mg (hidT s₁.heap H) callerA [] s₁ H := ⟨rfl, mod, fun b o e => of_hidT e, Nat.le_of_eq (hidT_size _ _), trivial, fun b z => (nomatch z), hok, .of_eq hg⟩
    have done := (F _ inB (nsB hns)).go callerA [] s₁ H ⟨[.ref a], []⟩ [.ref a] [.ref a] _ _ hr rfl env (hbind s₁ (.ref a)) (.cons rfl .nil) (hsp H hS)
    refine codeAny_mono done fun r s2 z => ?_
    match r, z with
    | .ok (.ret u), z =>
      obtain ⟨v, H2, os, bare, un, hok2, rel, e⟩ := z
      obtain rfl : v = .bl true := e
      obtain rfl : u = Value.bool true := rel
      refine ⟨rfl, OldK.of_keep fun b o e => ?_, os, bare⟩
      rcases only b with z | ⟨_, ⟨ob, xs, z⟩⟩
      · exact un.keep b o e z (fun n => nomatch n) (fun n => nomatch n)
      · obtain ⟨e1, _⟩ := hok b _ z
        obtain ⟨e2, _⟩ := hok2 b _ (un.frzs b ob _ z)
        rw [e] at e1
        cases e1
        exact e2
    | .error e, z => exact z.elim
  cases hk : K.lookup a with
  | some o =>
    have e := KX a o hk
    rw [ha] at e
    cases e
    refine main (fun _ => none) (fun _ => .inl rfl) (.inr ⟨_, vs.toArray, _, hk, rfl, rfl, rfl, ?_, by simpa using rv⟩) (fun b u z => nomatch z) fun z => absurd rfl z
    rw [List.size_toArray, hi.length]
    exact hl
  | none =>
    have pick : ∀ b, (if b = a then some (HO.frz { cls := .type "list", data := .seq vs.toArray } (.lst (ns.map V.int))) else none) = none ∨ b = a ∧ (if b = a then some (HO.frz { cls := .type "list", data := .seq vs.toArray } (.lst (ns.map V.int))) else none) = some (HO.frz { cls := .type "list", data := .seq vs.toArray } (.lst (ns.map V.int))) := fun b => by
      by_cases z : b = a
      · exact .inr ⟨z, if_pos z⟩
      · exact .inl (if_neg z)
    refine main (fun b => if b = a then some (.frz { cls := .type "list", data := .seq vs.toArray } (.lst (ns.map V.int))) else none) (fun b => (pick b).imp id fun z => ⟨z.1, _, _, z.2⟩) (.inl (.inr ⟨_, if_pos rfl⟩)) (fun b u z => ?_) fun _ => hk
    rcases pick b with q | ⟨rfl, q⟩
    · have z2 := q.symm.trans z
      cases z2
    · have z2 := q.symm.trans z
      cases z2
      exact ⟨ha, by rw [List.length_map]; exact hl, vs, _, rv, ha⟩
theorem walk_g {l : PySem.W.OpenLaw} {n k : Nat} {q : Program} {loose : List Str} {XP : (Str → Option Value) → Heap → Prop} {YP : World → Heap → Prop} {d : DefRec} {x : Str} (hn : l.most = some n) (hn2 : n ≤ sizeLine) (hdf : d.params.defaults = []) (hr : Room k callerA)
    (F : ∀ (w : World) (mg : Str → Option Value) (fa : Addr) (h : Heap), YP w h → h.Ns mainGlobals mg → mg d.name = some (.ref fa) → ∃ (K : PySem.W.Frag) (fd : FuncData) (sp : Sp), K.In h ∧ (∀ (s : Shared) (u : Value), BindsTo s fd ⟨[u], []⟩ [(x, u)]) ∧
      (∀ (H : Hp) (a : Addr) (ns : List Int), SqL K H a (ns.map V.int) → sp [.ref a] H (fun v _ => v = .bl true) E0) ∧ ∀ base : Heap, K.In base → base.Ns mainGlobals mg → FnG l.prog w K mg base k fa fd [x] sp) :
    PySem.W.WalkO q loose XP YP l.row.toRowW d [] (fun f vs => PySem.call f vs) := by
  refine Att.attach_call hn hdf fun w s0 s1 mg mb fa o pm cd doc a vs ns Gr Y ho hd hcd hmg hobj hints hlen hg => ?_
  obtain ⟨K, fd, sp, KX, hb, hs, hF⟩ := F w mg fa _ Y Gr.T.g hmg
  exact call_g KX Gr.T.g Gr.T.b Gr.T.builtins Gr.T.nolimit hg hobj hints (Nat.le_trans hlen hn2) hr hF hb fun H hS => hs H a ns hS
end Cw
open PySem PySem.W PySem.Calls PyProof.Rows
theorem PySem.Challenge.cw_changewise_k24_whole_settled_alike_and_n_holds : PySem.Challenge.rw_changewise_k24_whole_settled_alike_and_n.Holds := by
  w_on; o_law
  refine HandSHeadRun.head_any (r := Cw.R) (q := view Cw.R.prog [63]) (H := Cw.hk) (ob := Cw.ob) (M := 4000) (loose := Cw.loose) (d := HandSHeadRun.topDef Cw.R.prog 63) (kwd := []) Cw.ob_eq
    (by kernel_rfl) (fun s => by kernel_rfl) Cw.run (by kernel_rfl) (by kernel_rfl) (by kernel_rfl) (by rfl) (by first | assumption | decide +kernel) (by decide +kernel) ⟨rfl, rfl, rfl, rfl, rfl, by decide +kernel⟩ ?hw ?hc
  case hw => w_witness2
  case hc =>
    refine Cw.walk_g (l := PySem.Challenge.rw_changewise_k24_whole_settled_alike_and_n) (n := 63) (k := 22) (x := "_law_script") rfl (by decide) (by kernel_rfl) ⟨rfl, by decide, by decide⟩ ?F
    intro w mg fa h Y Gn hmg0
    obtain ⟨K, KX, c⟩ := Y
    have nm : (HandSHeadRun.topDef Cw.R.prog 63).name = ("law" : PySem.Str) := by kernel_rfl
    rw [nm] at hmg0
    have Z := Cw.fs_of KX Gn c
    have O := fun base => Cw.ok_law (P := (PySem.Challenge.rw_changewise_k24_whole_settled_alike_and_n).prog) (base := base) Z
    have e : fa = He.ga K "law" := by
      have z := hmg0.symm.trans Z.f_law.gl
      cases z
      rfl
    subst e
    obtain ⟨fd, FD⟩ := Z.f_law.ex
    refine ⟨K, fd, Cw.spLaw K, KX, fun s v => ?_, fun H a ns hS => ⟨a, ns, rfl, hS, fun _ => rfl⟩, fun base _ _ => ?_⟩
    · exact L2.FunD.bindsA (ps := ["_law_script"]) FD (fun _ _ _ _ _ _ us hl => match us, hl with | [_], _ => rfl) s [v] rfl
    · obtain ⟨fd2, F2, _, _, oc, od, osl, lk2⟩ := (O base).ex
      obtain ⟨oc1, od1, osl1, lk1⟩ := Cw.lkf_of FD
      rw [lk1] at lk2
      cases lk2
      exact F2
